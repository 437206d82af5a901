import PyProof.Rows.All
import Wide.All
import HandS.Base
import HandS.Dict
import HandS.Iter
import HandS.Lambda
import KE.KeyNested
import KE.KDictDisplayH
import OpenK.AllK
import Wide.FinOn
import PyProof.EqAt
import PyProof.EqKinds
import PyProof.TupleCall
import HandS.Call
import HandS.List
import HandS.Comp
import HandS.Ends
import HandS.Words
import HandS.WordsList
import HandS.Exc
import HandS.TupAny
import HandS.TupMul
import HandS.Deep
import HandS.IsInst
import HandS.Wide
import HandS.WideBits
import HandS.Style
import KE.SortData
import HandS.Walk
import HandS.WordsExc
import HandS.More
import HandS.Text
import KE.GoesEnum
import KE.GoesZip
import HandS.Steps
import PyProof.StrOps2
import PyProof.Rows.RuleB_bool
import HandS.ExcOwn
import HandS.Small
import HandS.ExcInit
import HandS.TryMany
import HandS.ExcField
import KE.KExcIs
import HandS.ExcIs
import KE.KDflt
import HandS.EndOwn
import HandS.Replace
import HandS.Zip
import HandS.SetFor
import HandS.Conv
import HandS.WordsDict
import HandS.TupLen
import KE.KDictSum
import HandS.DictComp
import HandS.Star
import KE.DataMinMax
import KE.GoesMore
import KE.KDictZip
import KE.KStar
import KE.DataAny
import PyProof.Transfer
import HandS.SetKeys
import KE.KDictKeyed
import HandS.Rev
import KE.KTupSum
import HandS.TupSets
import HandS.Strs
import HandS.ListItems
import KE.DataCmp
import HandS.DictTup
import KE.KDictWalk
import PySem.Challenge.RW_temperworks_k83_whole_shortest_moves
set_option Elab.async false
set_option linter.all false
set_option maxRecDepth 100000
set_option maxHeartbeats 2000000
/-! FL0: dicts whose keys are pairs of an int and a bool, as objects of the kind `ext`. -/
namespace L2
open PySem PySem.Spec PyProof.Rows
abbrev BK := Int × Bool
def bI (b : Bool) : Int := if b = true then 1 else 0
theorem bI_inj {a b : Bool} (h : bI a = bI b) : a = b := by
  cases a <;> cases b <;> first | rfl | (exact absurd h (by decide))
def nkb (k : BK) : NestedKey := .tup [.num k.1, .num (bI k.2)]
theorem nkb_inj {a b : BK} (h : nkb a = nkb b) : a = b := by
  obtain ⟨i, x⟩ := a
  obtain ⟨j, y⟩ := b
  unfold nkb at h
  injection h with h
  injection h with h1 h2
  injection h2 with h2 _
  injection h1 with h1
  injection h2 with h2
  rw [show i = j from h1, show x = y from bI_inj h2]
/-- the tuples that are such keys -/
def kbV (k : BK) : List V := [.int k.1, .bl k.2]
def bkKind (P : Program) (w : World) : HeapKind P w BK where
  is := fun h k a => (nestedKind P w).is h (nkb k) a
  hash := fun k => (nestedKind P w).hash (nkb k)
  draws := fun k => (nestedKind P w).draws (nkb k)
  room := (nestedKind P w).room
  inj := fun hx hy => nkb_inj ((nestedKind P w).inj hx hy)
  keeps := fun x ho hd hs => (nestedKind P w).keeps x ho hd hs
  pyHash := fun hu hk h => (nestedKind P w).pyHash hu hk h
  eqBool := fun {A E s x y a b Q} hu hx hy h => (nestedKind P w).eqBool hu hx hy (by
    have e : decide (nkb x = nkb y) = decide (x = y) := by
      by_cases q : x = y
      · subst q; simp
      · rw [decide_eq_false q, decide_eq_false fun z => q (nkb_inj z)]
    rw [e]; exact h)
  quiet := fun hk h => (nestedKind P w).quiet hk h
theorem bk_is {P : Program} {w : World} {H : Hp} {h : Heap} {a : Addr} {k : BK} (ok : HOk P w H h) (e : H a = some (.tup (kbV k))) : (bkKind P w).is h k a := by
  obtain ⟨_, its, r, o, h1, h2, n, h3⟩ := (show ObjOk P w H h a (.tup (kbV k)) from ok a _ e)
  refine ⟨.tup h1 h2 h3 ?_, ?_⟩
  · have r : Vals (kbV k) its := r
    unfold kbV at r
    cases r with
    | @cons x u xs us r1 r2 =>
      cases r2 with
      | @cons x2 u2 xs2 us2 r3 r4 =>
        cases r4
        obtain ⟨t, e1⟩ := (show ∃ t, u = Value.int k.1 t from r1)
        have e2 : u2 = Value.bool k.2 := r3
        subst e1 e2
        exact .cons (.int _ _) (.cons (.bool rfl) .nil)
  · show NestedKey.depth (nkb k) ≤ 8
    simp [nkb, NestedKey.depth, NestedKey.depthAll]
def hashB (k : BK) : Int := reduceHash (Builtin.Tuple.tupleHashOf [hashInt k.1, hashInt (bI k.2)])
def entB (x : BK × Addr × Value) : DictEntry := ⟨hashB x.1, .ref x.2.1, x.2.2⟩
abbrev BKV := List (BK × Addr × V)
abbrev RelB : BKV → List (BK × Addr × Value) → Prop := Paired fun p q => p.1 = q.1 ∧ p.2.1 = q.2.1 ∧ RelV p.2.2 q.2.2
/-- at a stands the dict kvs -/
def dbP (a : Addr) (kvs : BKV) (h : Heap) : Prop := kvs.length ≤ sizeLine ∧ (a == sysModules) = false ∧ (kvs.map (·.1)).Nodup ∧ ∃ xs, RelB kvs xs ∧ ∃ o es ep, h.get? a = some o ∧ o.ExactDict ∧ o.data = .dict es ep ∧ es.toList = xs.map entB
def dbO (a : Addr) (kvs : BKV) : HO := .ext (dbP a kvs)
/-- the keys' tuples stand -/
def KAs (H : Hp) (kvs : BKV) : Prop := ∀ p ∈ kvs, H p.2.1 = some (.tup (kbV p.1))
theorem KAs.mono {H H' : Hp} {kvs : BKV} (s : ∀ b ys, H b = some (.tup ys) → H' b = some (.tup ys)) (k : KAs H kvs) : KAs H' kvs := fun p hp => s _ _ (k p hp)
theorem dbP_loc {a : Addr} {kvs : BKV} {h h' : Heap} (x : dbP a kvs h) (k : ∀ o, h.get? a = some o → h'.get? a = some o) : dbP a kvs h' := by
  obtain ⟨z, y, n, xs, r, o, es, ep, e, c⟩ := x
  exact ⟨z, y, n, xs, r, o, es, ep, k _ e, c⟩
theorem dbP_there {a : Addr} {kvs : BKV} {h : Heap} (x : dbP a kvs h) : ∃ o, h.get? a = some o := by
  obtain ⟨z, y, n, xs, r, o, es, ep, e, c⟩ := x
  exact ⟨o, e⟩
theorem dbO_ok {P : Program} {w : World} {H : Hp} {h : Heap} {a : Addr} {kvs : BKV} (x : dbP a kvs h) : ObjOk P w H h a (dbO a kvs) := ⟨x, dbP_there x, fun _ _ x1 k => dbP_loc x1 k⟩
def junkO : Obj := { cls := .none, data := .fields #[] }
theorem dbO_at {P : Program} {w : World} {H : Hp} {h : Heap} {a b : Addr} {kvs : BKV} (x : ObjOk P w H h b (dbO a kvs)) : a = b ∧ dbP a kvs h := by
  obtain ⟨p, ⟨o, e⟩, st⟩ := (show dbP a kvs h ∧ (∃ o, h.get? b = some o) ∧ ∀ h1 h2 : Heap, dbP a kvs h1 → (∀ o, h1.get? b = some o → h2.get? b = some o) → dbP a kvs h2 from x)
  refine ⟨Classical.byContradiction fun ne => ?_, p⟩
  have p2 := st h (h.update a fun _ => junkO) p fun o' e' => by rw [Heap.get?_update_other _ _ ne]; exact e'
  obtain ⟨oa, ea⟩ := dbP_there p
  obtain ⟨z, y, n, xs, r, o2, es, ep, e2, c1, c2, c3⟩ := p2
  rw [Heap.get?_update_self _ ea rfl] at e2
  cases e2
  cases c2
/-- no code object is such a dict -/
theorem dbO_code {a c : Addr} {kvs : BKV} {q : Str} : dbO a kvs ≠ LamX.CodeO c q := fun z => by
  unfold dbO LamX.CodeO at z
  injection z with z
  let ob : Obj := { cls := .none, data := .fields #[.none, .str q default] }
  let h0 : Heap := { objs := (List.replicate (c + 1) ob).toArray }
  have hg : ∀ b o, h0.get? b = some o → o = ob := fun b o e => by
    have e := (Heap.get?_some_iff.mp e).1
    have e : (List.replicate (c + 1) ob).toArray[b]? = some o := e
    rw [List.getElem?_toArray, List.getElem?_replicate] at e
    split at e
    · exact (Option.some.inj e).symm
    · cases e
  have hc : h0.get? c = some ob := Heap.get?_some_iff.mpr ⟨by
    show (List.replicate (c + 1) ob).toArray[c]? = some ob
    rw [List.getElem?_toArray, List.getElem?_replicate, if_pos (by omega)], rfl⟩
  have p : dbP a kvs h0 := by
    rw [z]
    exact ⟨ob, _, default, hc, rfl, rfl⟩
  obtain ⟨_, _, _, xs, r, o2, es, ep, e2, c1, c2, c3⟩ := p
  rw [hg _ _ e2] at c2
  cases c2
/-! ### what is held -/
def valB (kvs : BKV) (k : BK) : Option V := (kvs.find? fun p => decide (p.1 = k)).map (·.2.2)
def putB (kvs : BKV) (k : BK) (q : Addr) (v : V) : BKV := if (valB kvs k).isSome = true then kvs.map (fun p => if p.1 = k then (p.1, p.2.1, v) else p) else kvs ++ [(k, q, v)]
theorem RelB.val {kvs : BKV} {xs : List (BK × Addr × Value)} (r : RelB kvs xs) (k : BK) : RelO (valB kvs k) ((atKey xs k).map (·.2)) := by
  induction r with
  | nil => exact True.intro
  | @cons p q ps qs h t ih =>
    obtain ⟨h1, _, h2⟩ := h
    by_cases e : p.1 = k
    · have e' : q.1 = k := h1.symm.trans e
      have b : atKey (q :: qs) k = some q.2 := by simp [atKey, List.find?_cons, e']
      have c : valB (p :: ps) k = some p.2.2 := by simp [valB, List.find?_cons, e]
      rw [b, c]; exact h2
    · have e' : ¬ q.1 = k := fun z => e (h1.trans z)
      have b : atKey (q :: qs) k = atKey qs k := by simp [atKey, List.find?_cons, e']
      have c : valB (p :: ps) k = valB ps k := by simp [valB, List.find?_cons, e]
      rw [b, c]; exact ih
theorem RelB.keys {kvs : BKV} {xs : List (BK × Addr × Value)} (r : RelB kvs xs) : kvs.map (·.1) = xs.map (·.1) := by
  induction r with
  | nil => rfl
  | cons h t ih => rw [List.map_cons, List.map_cons, ih, h.1]
theorem RelB.put {kvs : BKV} {xs : List (BK × Addr × Value)} (r : RelB kvs xs) (k : BK) {b : Addr} {y : V} {u : Value} (ry : RelV y u) : RelB (putB kvs k b y) (storedH xs k b u) := by
  have e : (valB kvs k).isSome = (atKey xs k).isSome := by rw [(r.val k).isSome_eq, Option.isSome_map]
  unfold putB storedH
  rw [e]
  by_cases q : (atKey xs k).isSome = true
  · rw [if_pos q, if_pos q]
    clear e q
    induction r with
    | nil => exact .nil
    | @cons p q ps qs h t ih =>
      rw [List.map_cons, List.map_cons]
      refine .cons ?_ ih
      obtain ⟨h1, h2, h3⟩ := h
      unfold putAt
      by_cases e : p.1 = k
      · rw [if_pos e, if_pos (h1.symm.trans e)]; exact ⟨h1, h2, ry⟩
      · rw [if_neg e, if_neg (fun z => e (h1.trans z))]; exact ⟨h1, h2, h3⟩
  · rw [if_neg q, if_neg q]
    exact Paired.snoc r ⟨rfl, rfl, ry⟩
theorem putB_keys (kvs : BKV) (k : BK) (q : Addr) (v : V) : (putB kvs k q v).map (·.1) = if (valB kvs k).isSome = true then kvs.map (·.1) else kvs.map (·.1) ++ [k] := by
  unfold putB
  split
  · rw [List.map_map]
    refine List.map_congr_left fun p _ => ?_
    show (if p.1 = k then (p.1, p.2.1, v) else p).1 = p.1
    split <;> rfl
  · simp
theorem valB_none {kvs : BKV} {k : BK} (h : ¬ (valB kvs k).isSome = true) : k ∉ kvs.map (·.1) := fun m => by
  obtain ⟨p, hp, e⟩ := List.mem_map.mp m
  apply h
  unfold valB
  rw [Option.isSome_map, List.find?_isSome]
  exact ⟨p, hp, by simpa using e⟩
theorem putB_nodup {kvs : BKV} {k : BK} {q : Addr} {v : V} (h : (kvs.map (·.1)).Nodup) : ((putB kvs k q v).map (·.1)).Nodup := by
  rw [putB_keys]
  split
  · exact h
  · rename_i n
    rw [List.nodup_append]
    exact ⟨h, by simp, fun a ha b hb e => by
      rw [List.mem_singleton] at hb
      subst hb; subst e
      exact valB_none n ha⟩
theorem putB_len (kvs : BKV) (k : BK) (q : Addr) (v : V) : (putB kvs k q v).length ≤ kvs.length + 1 := by
  unfold putB
  split
  · simp
  · simp
theorem putB_as {H : Hp} {kvs : BKV} {k : BK} {q : Addr} {v : V} (h : KAs H kvs) (hq : H q = some (.tup (kbV k))) : KAs H (putB kvs k q v) := by
  unfold putB
  split
  · intro p hp
    obtain ⟨p0, m, e⟩ := List.mem_map.mp hp
    have := h p0 m
    subst e
    split <;> exact this
  · intro p hp
    rcases List.mem_append.mp hp with m | m
    · exact h p m
    · rw [List.mem_singleton] at m
      subst m; exact hq
section
variable {P : Program} {w : World} {H : Hp} {h : Heap} {a : Addr}
theorem db_rd {a' : Addr} {kvs : BKV} (ok : HOk P w H h) (e : Rd H a (dbO a' kvs)) (ka : KAs H kvs) : kvs.length ≤ sizeLine ∧ (a == sysModules) = false ∧ (kvs.map (·.1)).Nodup ∧ ∃ xs, RelB kvs xs ∧ h.DictOfH (bkKind P w) a xs := by
  obtain ⟨rfl, z, y, n, xs, r, o, es, ep, h1, h2, h3, h4⟩ := dbO_at (rd_of ok e)
  refine ⟨z, y, n, xs, r, o, es, ep, h1, h2, h3, h4, fun x hx => ?_, by rw [← r.keys]; exact n⟩
  have all : ∀ {l : BKV} {m : List (BK × Addr × Value)}, RelB l m → KAs H l → ∀ x ∈ m, (bkKind P w).is h x.1 x.2.1 := by
    intro l m q
    induction q with
    | nil => intro _ x hx; exact nomatch hx
    | @cons p q ps qs hq t ih =>
      intro kl x hx
      rcases List.mem_cons.mp hx with e | hx
      · subst e
        have := kl p (List.mem_cons_self)
        rw [hq.1, hq.2.1] at this
        exact bk_is ok this
      · exact ih (fun p hp => kl p (List.mem_cons_of_mem _ hp)) x hx
  exact all r ka x hx
end
def DGetB (H : Hp) (a : Addr) (y : V) (r : Option V) : Prop := ∃ a' kvs k q, Rd H a (dbO a' kvs) ∧ KAs H kvs ∧ y = .ref q ∧ H q = some (.tup (kbV k)) ∧ r = valB kvs k
def DPutB (H : Hp) (a : Addr) (y v : V) (H' : Hp) : Prop := ∃ kvs k q, (∃ a', H a = some (dbO a' kvs)) ∧ KAs H kvs ∧ y = .ref q ∧ H q = some (.tup (kbV k)) ∧ kvs.length < sizeLine ∧ H' = upd H a (dbO a (putB kvs k q v))
def DGetX (H : Hp) (a : Addr) (y : V) (r : Option V) : Prop := DGet H a y r ∨ DGetB H a y r
def DPutX (H : Hp) (a : Addr) (y v : V) (H' : Hp) : Prop := DPut H a y v H' ∨ DPutB H a y v H'
section
variable {X : Cx} {pins : List (Addr × Obj)} {σ : St} {H : Hp} {s : Shared} {a : Addr} {y v : V} {u r : Value} {o : Option V} {A : Around} {E : Value → Shared → Prop}
theorem bk_room {A : Around} (hu : A.units + 9 < cLine) {P : Program} {w : World} : (bkKind P w).room A.in1 := by
  show A.in1.units + 8 < cLine
  have : A.in1.units = A.units + 1 := rfl
  omega
theorem d_getItemX {Q : Value → Shared → Prop} (hu : A.units + 9 < cLine) (I : Inv X pins σ H s) (g : DGetX H a y (some v)) (ry : RelV y u) (h : ∀ w' s', Inv X pins σ H s' → RelV v w' → Q w' s') :
    wpAny (model X.prog X.w) A (getItem (.ref a) u) Q E s := by
  rcases g with g | ⟨a', kvs, k, b, e, ka, ey, eb, l⟩
  · exact d_getItem (by omega) I g ry h
  · subst ey
    cases (show u = Value.ref b from ry)
    obtain ⟨z, hd, _, xs, rel, dd⟩ := db_rd I.hok e ka
    obtain ⟨w', hw, rw'⟩ := RelO.some_of (v := v) (o := (atKey xs k).map (·.2)) (by rw [l]; exact rel.val k)
    obtain ⟨p, hp, hp2⟩ := Option.map_eq_some_iff.mp hw
    refine wpAny_getItem_heap (bk_room hu) (bk_is I.hok eb) dd hp ?_
    rw [hp2]
    exact h w' _ (I.tok _) rw'
theorem d_notInX {Q : Value → Shared → Prop} (hu : A.units + 9 < cLine) (I : Inv X pins σ H s) (g : DGetX H a y o) (ry : RelV y u) (h : ∀ s', Inv X pins σ H s' → Q (.bool (!o.isSome)) s') :
    wpAny (model X.prog X.w) A (compareOp .NotIn u (.ref a)) Q E s := by
  rcases g with g | ⟨a', kvs, k, b, e, ka, ey, eb, l⟩
  · exact d_notIn (by omega) I g ry h
  · subst ey
    cases (show u = Value.ref b from ry)
    obtain ⟨z, hd, _, xs, rel, dd⟩ := db_rd I.hok e ka
    refine wpAny_notIn_heap (bk_room hu) (bk_is I.hok eb) hd dd ?_
    have q := (rel.val k).isSome_eq
    rw [Option.isSome_map] at q
    rw [← q, ← l]
    exact h _ (I.tok _)
theorem db_new {P : Program} {w : World} {H' : Hp} {h' : Heap} {kvs : BKV} {xs : List (BK × Addr × Value)} (z : kvs.length ≤ sizeLine) (hd : (a == sysModules) = false) (n : (kvs.map (·.1)).Nodup) (rel : RelB kvs xs) (dd : h'.DictOfH (bkKind P w) a xs) :
    ObjOk P w H' h' a (dbO a kvs) := by
  obtain ⟨o, es, ep, h1, h2, h3, h4, _, _⟩ := dd
  exact dbO_ok ⟨z, hd, n, xs, rel, o, es, ep, h1, h2, h3, h4⟩
theorem d_setItemX {H' : Hp} {Q : Unit → Shared → Prop} (hu : A.units + 9 < cLine) (I : Inv X pins σ H s) (g : DPutX H a y v H') (ry : RelV y u) (rv : RelV v r) (h : ∀ s', Inv X pins σ H' s' → Q () s') :
    wpAny (model X.prog X.w) A (setItem (.ref a) u r) Q E s := by
  rcases g with g | ⟨kvs, k, b, ⟨a', e⟩, ka, ey, eb, l, eH⟩
  · exact d_setItem (by omega) I g ry rv h
  · subst ey eH
    cases (show u = Value.ref b from ry)
    obtain ⟨z, hd, n, xs, rel, dd⟩ := db_rd I.hok (.inl e) ka
    have hz : xs.length ≤ sizeLine := by rw [← Paired.length rel]; exact z
    have hl : (putB kvs k b v).length ≤ sizeLine := by have := putB_len kvs k b v; omega
    refine wpAny_setItem_heap (hsz := hz) (bk_room hu) (bk_is I.hok eb) dd fun h' dd' hs => h _ ?_
    have he : ∃ q, h'.get? a = some q := let ⟨q, _, _, hq, _⟩ := dd'; ⟨q, hq⟩
    exact d_write I (by rw [e]; exact True.intro) hs he (db_new hl hd (putB_nodup n) (rel.put k rv) dd')
end
theorem dict_typeIsX {X : Cx} {pins : List (Addr × Obj)} {σ : St} {H : Hp} {s : Shared} {a : Addr} {y : V} {o : Option V} (I : Inv X pins σ H s) (g : DGetX H a y o) : s.TypeIs (.ref a) "dict" := by
  rcases g with g | ⟨a', kvs, k, b, e, ka, ey, eb, l⟩
  · exact dict_typeIs I g
  · obtain ⟨_, _, _, xs, _, dd⟩ := db_rd I.hok e ka
    exact dd.typeIs
def tDGetX (td ty : TE) : TE := fun σ H Q => td σ H fun x H1 => ty σ H1 fun y H2 => ∃ a v, x = .ref a ∧ DGetX H2 a y (some v) ∧ Q v H2
def tDNotInX (ty td : TE) : TE := fun σ H Q => ty σ H fun y H1 => td σ H1 fun x H2 => ∃ a o, x = .ref a ∧ DGetX H2 a y o ∧ Q (.bl (!o.isSome)) H2
def sDPutX (td ty tv : TE) : TS := fun D σ H => tv σ H fun v H1 => td σ H1 fun x H2 => ty σ H2 fun y H3 => ∃ a H4, x = .ref a ∧ DPutX H3 a y v H4 ∧ D.nx σ H4
/-- a is a dict, whatever its keys -/
def IsDX (H : Hp) (a : Addr) : Prop := IsD H a ∨ ∃ a' kvs, Rd H a (dbO a' kvs)
theorem isD_atX {X : Cx} {pins : List (Addr × Obj)} {σ : St} {H : Hp} {s : Shared} {a : Addr} (I : Inv X pins σ H s) (d : IsDX H a) :
    s.TypeIs (.ref a) "dict" ∧ (∀ b, Value.ref a = .ref b → ∃ ob, s.heap.get? b = some ob ∧ ob.dict = none) ∧ (a == sysModules) = false := by
  rcases d with d | ⟨a', kvs, e⟩
  · exact isD_at I d
  · obtain ⟨rfl, z, y, n, xs, r, o, es, ep, h1, h2, h3, h4⟩ := dbO_at (rd_of I.hok e)
    refine ⟨⟨_, h1, h2.1⟩, fun b q => ?_, y⟩
    cases q
    exact ⟨o, h1, h2.2.1⟩
section
variable {X : Cx} {pins : List (Addr × Obj)} {σ : St} {H : Hp} {s : Shared} {a : Addr} {y d : V} {u r : Value} {o : Option V} {A : Around} {E : Value → Shared → Prop}
theorem d_get1X {Q : Value → Shared → Prop} (hu : A.units + 9 < cLine) (I : Inv X pins σ H s) (g : DGetX H a y o) (ry : RelV y u) (h : ∀ w' s', Inv X pins σ H s' → RelV (o.getD .non) w' → Q w' s') :
    wpAny (model X.prog X.w) A (call (.builtin "dict.get") [.ref a, u]) Q E s := by
  rcases g with g | ⟨a', kvs, k, b, e, ka, ey, eb, l⟩
  · exact d_get1 (by omega) I g ry h
  · subst ey
    cases (show u = Value.ref b from ry)
    obtain ⟨z, hd, _, xs, rel, dd⟩ := db_rd I.hok e ka
    refine call_meetsIn PySem.F.slot_dict_get dd.typeIs PySem.F.entry_dict_get (PySem.F.args_dict_get_2 _ _) (meetsH_dict_get (bkKind X.prog X.w) a b hd) ⟨bk_room hu, k, xs, bk_is I.hok eb, dd, h _ _ (I.tok _) ?_⟩
    rw [l]
    exact (rel.val k).getD rfl
theorem d_get2X {Q : Value → Shared → Prop} (hu : A.units + 9 < cLine) (I : Inv X pins σ H s) (g : DGetX H a y o) (ry : RelV y u) (rd : RelV d r) (h : ∀ w' s', Inv X pins σ H s' → RelV (o.getD d) w' → Q w' s') :
    wpAny (model X.prog X.w) A (call (.builtin "dict.get") [.ref a, u, r]) Q E s := by
  rcases g with g | ⟨a', kvs, k, b, e, ka, ey, eb, l⟩
  · exact d_get2 (by omega) I g ry rd h
  · subst ey
    cases (show u = Value.ref b from ry)
    obtain ⟨z, hd, _, xs, rel, dd⟩ := db_rd I.hok e ka
    refine call_meetsIn PySem.F.slot_dict_get dd.typeIs PySem.F.entry_dict_get (PySem.F.args_dict_get_3 _ _ _) (meetsH_dict_get_default (bkKind X.prog X.w) a b hd r) ⟨bk_room hu, k, xs, bk_is I.hok eb, dd, h _ _ (I.tok _) ?_⟩
    rw [l]
    exact (rel.val k).getD rd
end
def tDGet1X (td ty : TE) : TE := fun σ H Q => td σ H fun x H1 => ∃ a, x = .ref a ∧ IsDX H1 a ∧ ty σ H1 fun y H2 => ∃ o, DGetX H2 a y o ∧ Q (o.getD .non) H2
def tDGet2X (td ty tx : TE) : TE := fun σ H Q => td σ H fun x H1 => ∃ a, x = .ref a ∧ IsDX H1 a ∧ ty σ H1 fun y H2 => tx σ H2 fun z H3 => ∃ o, DGetX H3 a y o ∧ Q (o.getD z) H3
section
variable {X : Cx} {o i e f value : Expr} {pos pos' apos cpos : Pos} {td ty tv tx : TE}
theorem pe_dgetX (hu : X.A.units + 9 < cLine) (ho : PE X o td) (hi : PE X i ty) (hs : NoSl i) : PE X (.Subscript o i pos) (tDGetX td ty) := by
  refine ⟨fun pins s σ H Q I h => ?_⟩
  refine subD_of PySem.F.slot_dict_getitem.lookup hs (thn (ho.run pins s σ H _ I h) fun u s1 ⟨x, H1, I1, rx, q1⟩ => thn (hi.run pins s1 σ H1 _ I1 q1) fun iv s2 ⟨y, H2, I2, ry, a, v, ex, g, q2⟩ => ?_)
  subst ex
  obtain rfl : u = Value.ref a := rx
  exact ⟨dict_typeIsX I2 g, d_getItemX hu I2 g ry fun w' s3 I3 rw' => ⟨v, H2, I3, rw', q2⟩⟩
theorem pc_dnotinX (hu : X.A.units + 9 < cLine) (hi : PE X i ty) (ho : PE X o td) : PC X .NotIn i o (tDNotInX ty td) := by
  refine ⟨fun pins s σ H Q I h => ?_⟩
  refine thn (hi.run pins s σ H _ I h) fun iv s1 ⟨y, H1, I1, ry, q1⟩ => thn (ho.run pins s1 σ H1 _ I1 q1) fun u s2 ⟨x, H2, I2, rx, a, ov, ex, g, q2⟩ => ?_
  subst ex
  obtain rfl : u = Value.ref a := rx
  exact d_notInX hu I2 g ry fun s3 I3 => ⟨.bl (!ov.isSome), H2, I3, rfl, q2⟩
theorem ps_dputX (hu : X.A.units + 9 < cLine) (ho : PE X o td) (hi : PE X i ty) (hv : PE X value tv) (hs : swapsWith value (some (.Subscript o i pos')) pos.line X.env = pure false) :
    PS X (.Assign [.Subscript o i pos'] value pos) (sDPutX td ty tv) := by
  refine ⟨fun pins s σ H D I h => ?_⟩
  refine wpAny_Assign_Subscript (thn (hv.run pins s σ H _ I h) fun r s1 ⟨v, H1, I1, rv, q1⟩ => thn (ho.run pins s1 σ H1 _ I1 q1) fun u s2 ⟨x, H2, I2, rx, q2⟩ => thn (hi.run pins s2 σ H2 _ I2 q2) fun iv s3 ⟨y, H3, I3, ry, a, H4, ex, g, q3⟩ => ?_) hs
  subst ex
  obtain rfl : u = Value.ref a := rx
  exact d_setItemX hu I3 g ry rv fun s4 I4 => ⟨σ, H4, I4, q3⟩
theorem pe_dget1X (hu : X.A.units + 9 < cLine) (ho : PE X o td) (he : PE X e ty) (m : M1 X o "get" apos e cpos) : PE X (.Call (.Attribute o "get" apos) [e] [] cpos) (tDGet1X td ty) := by
  refine ⟨fun pins s σ H Q I h => ?_⟩
  refine wpAny_Call_method m.base m.few m.line PySem.F.plainAttrs_dict PySem.F.slot_dict_get PySem.F.type_dict_get (thn (ho.run pins s σ H _ I h) fun u s1 ⟨x, H1, I1, rx, a, ex, d, q1⟩ => ?_)
  subst ex
  obtain rfl : u = Value.ref a := rx
  obtain ⟨t1, t2, _⟩ := isD_atX I1 d
  refine ⟨t1, t2, ?_⟩
  rw [m.trees]
  refine Calls.callWith_builtin rfl (Calls.evalArgs_plain (Calls.spliced_cons (thn (he.run pins s1 σ H1 _ I1 q1) fun iv s2 ⟨y, H2, I2, ry, ov, g, q2⟩ => Calls.spliced_nil ?_)))
  exact d_get1X hu I2 g ry fun w' s3 I3 rw' => ⟨_, H2, I3, rw', q2⟩
theorem pe_dget2X (hu : X.A.units + 9 < cLine) (ho : PE X o td) (he : PE X e ty) (hf : PE X f tx) (m : M2 X o "get" apos e f cpos) : PE X (.Call (.Attribute o "get" apos) [e, f] [] cpos) (tDGet2X td ty tx) := by
  refine ⟨fun pins s σ H Q I h => ?_⟩
  refine wpAny_Call_method m.base m.few m.line PySem.F.plainAttrs_dict PySem.F.slot_dict_get PySem.F.type_dict_get (thn (ho.run pins s σ H _ I h) fun u s1 ⟨x, H1, I1, rx, a, ex, d, q1⟩ => ?_)
  subst ex
  obtain rfl : u = Value.ref a := rx
  obtain ⟨t1, t2, _⟩ := isD_atX I1 d
  refine ⟨t1, t2, ?_⟩
  rw [m.trees]
  refine Calls.callWith_builtin rfl (Calls.evalArgs_plain (Calls.spliced_cons (thn (he.run pins s1 σ H1 _ I1 q1) fun iv s2 ⟨y, H2, I2, ry, q2⟩ =>
    Calls.spliced_cons (thn (hf.run pins s2 σ H2 _ I2 q2) fun fv s3 ⟨z, H3, I3, rz, ov, g, q3⟩ => Calls.spliced_nil ?_))))
  exact d_get2X hu I3 g ry rz fun w' s4 I4 rw' => ⟨_, H3, I4, rw', q3⟩
end
/-- {k: v}, the key a pair of an int and a bool -/
theorem db_empty {h : Heap} (hb : sysModules < h.objs.size) : dbP h.objs.size [] (h.push { cls := .type "dict", data := .dict #[] }) :=
  ⟨Nat.zero_le _, beq_eq_false_iff_ne.mpr (Ne.symm (Nat.ne_of_lt hb)), List.nodup_nil, [], .nil, _, #[], 0, Heap.get?_push_size _ rfl, ⟨rfl, rfl, rfl⟩, rfl, rfl⟩
def tDispB (trs : List (TE × TE)) : TE := fun σ H Q => ∀ p, H p = none → tPairs trs σ (upd H p (dbO p [])) fun ps H2 => H2 p = some (dbO p []) ∧ ∃ k q v, ps = [(.ref q, v)] ∧ H2 q = some (.tup (kbV k)) ∧ Q (.ref p) (upd H2 p (dbO p [(k, q, v)]))
theorem pe_dispB {X : Cx} {pos : Pos} {keys : List (Option Expr)} {values : List Expr} {trs : List (TE × TE)} (hu : X.A.units + 9 < cLine) (hp : PPs X pos keys values trs) (hall : keys.all (·.isSome) = true) (hl : keys.length = values.length) (h0 : keys ≠ [])
    (h15 : keys.length ≤ 15) : PE X (.Dict keys values pos) (tDispB trs) := by
  refine ⟨fun pins s σ H Q I h => ?_⟩
  have hn := pairTrees_length keys values X.env pos hall hl
  have room : (bkKind X.prog X.w).room X.A := by show X.A.units + 8 < cLine; omega
  rw [arm_eval_Dict, zip_pairTrees keys values X.env pos hall hl, dictDisplay_pairs (pairTrees keys values X.env pos) (fun he => by rw [he] at hn; exact h0 (List.length_eq_zero_iff.mp hn.symm)) (by omega)]
  refine wpAny_bind (wpAny_standAt (wpAny_bind (wpAny_subDictH (knd := bkKind X.prog X.w) (Q := fun d s' => wpAny (model X.prog X.w) X.A (pure (Value.ref d)) _ X.xe s') room (by omega) ?_)))
  have nH := I.hok.fresh (Nat.le_refl s.heap.objs.size)
  have I1 := I.laid (a := s.heap.objs.size) (o := dbO s.heap.objs.size []) (h' := s.heap.push { cls := .type "dict", data := .dict #[] }) (t' := s.toks) (fun _ _ q => Heap.get?_push_of_some _ q) (Nat.le_refl _) (dbO_ok (db_empty I.big))
  refine thn (hp.run _ _ σ _ _ I1 (h _ nH)) fun vs s1 ⟨ps, H2, I2, rel, e2, k, q, v, ep, eq, q2⟩ => ?_
  subst ep
  obtain ⟨z, hd, n, xs, r0, dd⟩ := db_rd I2.hok (.inl e2) (fun p hp => nomatch hp)
  cases r0
  cases rel with
  | @cons _ b _ bs hb t =>
    cases t
    obtain ⟨b1, b2⟩ := b
    obtain rfl : b1 = Value.ref q := hb.1
    refine ⟨[(k, q, b2)], ⟨rfl, rfl, bk_is I2.hok eq, trivial⟩, dd, fun h' tk dd' sb => wpAny_pure ?_⟩
    have he : ∃ q, h'.get? s.heap.objs.size = some q := let ⟨q, _, _, hq, _⟩ := dd'; ⟨q, hq⟩
    refine ⟨.ref s.heap.objs.size, _, d_write I2 (by rw [e2]; exact True.intro) sb he (db_new (by rw [sizeLine_eq]; show 1 ≤ _; omega) hd (by simp) (.cons ⟨rfl, rfl, hb.2⟩ .nil) dd'), rfl, q2⟩
end L2

/-! FL1: trees in place of the heap: what a def computes as a function upon trees. -/
namespace FL
open PySem PySem.Spec PyProof.Rows L2

/-- a value as a tree; sl: a list that is only read; fn: a def or class of the module, by its name -/
inductive T where
  | non | bl (b : Bool) | int (i : Int) | str (x : Str)
  | lst (xs : List T) | tup (xs : List T) | sl (xs : List T) | fn (x : Str)
  | dk (ks : List Key) (vs : List T) | dt (ks : List (List Key)) (vs : List T) | db (ks : List BK) (vs : List T)
/-- an object that is being changed -/
inductive O where
  | l (xs : List T)
  | dk (ks : List Key) (vs : List T)
  | dt (ks : List (List Key)) (vs : List T)
  | db (ks : List BK) (vs : List T)
/-- a slot: unknown, a tree that stays, an object of one's own, the object that the caller lent -/
inductive SV where
  | un | fz (t : T) | ow (o : O) | pa (o : O) | raw (n : Nat)
def SV.owned : SV → Bool
  | .ow _ => true
  | .pa _ => true
  | _ => false
abbrev Env := List SV
/-- an exception: its class's name, its field -/
inductive Ex where
  | mk (cls : Str) (arg : Option (Str × T))
inductive Res (α : Type) where
  | bad | exc (e : Ex) | ok (a : α) (ρ : Env)
def Res.bind {α β : Type} (r : Res α) (k : α → Env → Res β) : Res β := match r with
  | .bad => .bad
  | .exc e => .exc e
  | .ok a ρ => k a ρ
abbrev M (α : Type) := Env → Res α
def Den {α : Type} (r : Res α) (p : α → Env → Prop) (x : Ex → Prop) : Prop := match r with
  | .bad => False
  | .exc e => x e
  | .ok a ρ => p a ρ
theorem Den.bind {α β : Type} {r : Res α} {k : α → Env → Res β} {p : β → Env → Prop} {x : Ex → Prop} (h : Den (r.bind k) p x) : Den r (fun a ρ => Den (k a ρ) p x) x := by
  cases r with
  | bad => exact h
  | exc e => exact h
  | ok a ρ => exact h
theorem Den.imp {α : Type} {r : Res α} {p q : α → Env → Prop} {x : Ex → Prop} (h : Den r p x) (hi : ∀ a ρ, p a ρ → q a ρ) : Den r q x := by
  cases r with
  | bad => exact h
  | exc e => exact h
  | ok a ρ => exact hi a ρ h

/-! ### trees and heaps -/
section
variable (K : PySem.W.Frag) (mg : Str → Option Value)
mutual
def Rep (F : Hp) : T → V → Prop
  | .non, v => v = .non
  | .bl b, v => v = .bl b
  | .int i, v => v = .int i
  | .str x, v => v = .str x
  | .lst ts, v => ∃ a vs, v = .ref a ∧ F a = some (.lst vs) ∧ Reps F ts vs
  | .sl ts, v => ∃ a vs, v = .ref a ∧ SqL K F a vs ∧ Reps F ts vs
  | .tup ts, v => ∃ a vs, v = .ref a ∧ F a = some (.tup vs) ∧ Reps F ts vs
  | .fn x, v => ∃ a, v = .ref a ∧ mg x = some (.ref a)
  | .dk ks ts, v => ∃ a kvs, v = .ref a ∧ F a = some (.dK kvs) ∧ kvs.map (·.1) = ks ∧ Reps F ts (kvs.map (·.2))
  | .dt ks ts, v => ∃ a kvs, v = .ref a ∧ Rd F a (.dT kvs) ∧ kvs.map (·.1) = ks ∧ Reps F ts (kvs.map (·.2))
  | .db ks ts, v => ∃ a a' kvs, v = .ref a ∧ Rd F a (dbO a' kvs) ∧ KAs F kvs ∧ kvs.map (·.1) = ks ∧ Reps F ts (kvs.map (·.2.2))
def Reps (F : Hp) : List T → List V → Prop
  | [], vs => vs = []
  | t :: ts, vs => ∃ v r, vs = v :: r ∧ Rep F t v ∧ Reps F ts r
end
def ORep (F : Hp) : O → HO → Prop
  | .l ts, h => ∃ vs, h = .lst vs ∧ Reps K mg F ts vs
  | .dk ks ts, h => ∃ kvs, h = .dK kvs ∧ kvs.map (·.1) = ks ∧ Reps K mg F ts (kvs.map (·.2))
  | .dt ks ts, h => ∃ kvs, h = .dT kvs ∧ kvs.map (·.1) = ks ∧ Reps K mg F ts (kvs.map (·.2))
  | .db ks ts, h => ∃ a kvs, h = dbO a kvs ∧ KAs F kvs ∧ kvs.map (·.1) = ks ∧ Reps K mg F ts (kvs.map (·.2.2))
end
theorem same_SqL {K : PySem.W.Frag} {H H' : Hp} {a : Addr} {xs : List V} (e : Same H H') (h : SqL K H a xs) : SqL K H' a xs := e.seq h
theorem same_Rd {H H' : Hp} {a : Addr} {u : HO} (e : Same H H') (h : Rd H a u) : Rd H' a u := by
  rcases h with h | ⟨o, h⟩
  · exact .inl (e _ _ h)
  · exact .inr ⟨o, e _ _ h⟩
theorem same_SqT0 {K : PySem.W.Frag} {H H' : Hp} {a : Addr} {xs : List V} (e : Same H H') (h : SqT K H a xs) : SqT K H' a xs := by
  rcases h with h | h
  · exact .inl (same_Rd e h)
  · exact .inr h
theorem same_SqT {K : PySem.W.Frag} {H H' : Hp} {a : Addr} {xs : List V} (e : Same H H') (h : H a = some (.tup xs)) : SqT K H' a xs := SqT.of (e _ _ h)
section
variable {K : PySem.W.Frag} {mg : Str → Option Value}
mutual
theorem Rep.mono {F F' : Hp} (e : Same F F') : ∀ (t : T) (v : V), Rep K mg F t v → Rep K mg F' t v
  | .non, _, h => h
  | .bl _, _, h => h
  | .int _, _, h => h
  | .str _, _, h => h
  | .lst ts, _, h => by
    obtain ⟨a, vs, h1, h2, h3⟩ := h
    exact ⟨a, vs, h1, e _ _ h2, Reps.mono e ts vs h3⟩
  | .sl ts, _, h => by
    obtain ⟨a, vs, h1, h2, h3⟩ := h
    exact ⟨a, vs, h1, same_SqL e h2, Reps.mono e ts vs h3⟩
  | .tup ts, _, h => by
    obtain ⟨a, vs, h1, h2, h3⟩ := h
    exact ⟨a, vs, h1, e _ _ h2, Reps.mono e ts vs h3⟩
  | .fn _, _, h => h
  | .dk ks ts, _, h => by
    obtain ⟨a, kvs, h1, h2, h3, h4⟩ := h
    exact ⟨a, kvs, h1, e _ _ h2, h3, Reps.mono e ts _ h4⟩
  | .dt ks ts, _, h => by
    obtain ⟨a, kvs, h1, h2, h3, h4⟩ := h
    exact ⟨a, kvs, h1, same_Rd e h2, h3, Reps.mono e ts _ h4⟩
  | .db ks ts, _, h => by
    obtain ⟨a, a', kvs, h1, h2, h0, h3, h4⟩ := h
    exact ⟨a, a', kvs, h1, same_Rd e h2, h0.mono fun _ _ q => e _ _ q, h3, Reps.mono e ts _ h4⟩
theorem Reps.mono {F F' : Hp} (e : Same F F') : ∀ (ts : List T) (vs : List V), Reps K mg F ts vs → Reps K mg F' ts vs
  | [], _, h => h
  | t :: ts, _, h => by
    obtain ⟨v, r, h1, h2, h3⟩ := h
    exact ⟨v, r, h1, Rep.mono e t v h2, Reps.mono e ts r h3⟩
end
theorem ORep.mono {F F' : Hp} (e : Same F F') {o : O} {h : HO} (r : ORep K mg F o h) : ORep K mg F' o h := by
  cases o with
  | l ts => obtain ⟨vs, h1, h2⟩ := r; exact ⟨vs, h1, h2.mono e⟩
  | dk ks ts => obtain ⟨kvs, h1, h2, h3⟩ := r; exact ⟨kvs, h1, h2, h3.mono e⟩
  | dt ks ts => obtain ⟨kvs, h1, h2, h3⟩ := r; exact ⟨kvs, h1, h2, h3.mono e⟩
  | db ks ts => obtain ⟨a, kvs, h1, h0, h2, h3⟩ := r; exact ⟨a, kvs, h1, h0.mono fun _ _ q => e _ _ q, h2, h3.mono e⟩
theorem Reps.length {F : Hp} : ∀ {ts : List T} {vs : List V}, Reps K mg F ts vs → ts.length = vs.length
  | [], _, h => by
    have e : _ = _ := h
    subst e; rfl
  | t :: ts, _, h => by
    obtain ⟨v, r, rfl, _, h3⟩ := h
    have := Reps.length h3
    simp [this]
theorem Reps.get {F : Hp} : ∀ {ts : List T} {vs : List V} {i : Nat} {t : T}, Reps K mg F ts vs → ts[i]? = some t → ∃ v, vs[i]? = some v ∧ Rep K mg F t v
  | [], _, _, _, _, e => by simp at e
  | t :: ts, _, 0, u, h, e => by
    obtain ⟨v, r, rfl, h2, h3⟩ := h
    simp at e; subst e
    exact ⟨v, rfl, h2⟩
  | t :: ts, _, i + 1, u, h, e => by
    obtain ⟨v, r, rfl, h2, h3⟩ := h
    obtain ⟨w, h4, h5⟩ := Reps.get (i := i) (t := u) h3 (by simpa using e)
    exact ⟨w, by simpa using h4, h5⟩
theorem Reps.nil {F : Hp} : Reps K mg F [] [] := rfl
theorem Reps.cons {F : Hp} {t : T} {ts : List T} {v : V} {vs : List V} (h : Rep K mg F t v) (r : Reps K mg F ts vs) : Reps K mg F (t :: ts) (v :: vs) := ⟨v, vs, rfl, h, r⟩
theorem Reps.append {F : Hp} : ∀ {ts us : List T} {vs ws : List V}, Reps K mg F ts vs → Reps K mg F us ws → Reps K mg F (ts ++ us) (vs ++ ws)
  | [], _, _, _, h, q => by
    have e : _ = _ := h
    subst e; exact q
  | t :: ts, _, _, _, h, q => by
    obtain ⟨v, r, rfl, h2, h3⟩ := h
    exact ⟨v, r ++ _, rfl, h2, h3.append q⟩
theorem Reps.one {F : Hp} {t : T} {v : V} (h : Rep K mg F t v) : Reps K mg F [t] [v] := .cons h .nil
theorem Reps.take {F : Hp} : ∀ {ts : List T} {vs : List V} (n : Nat), Reps K mg F ts vs → Reps K mg F (ts.take n) (vs.take n)
  | _, _, 0, _ => by simp [Reps]
  | [], _, n + 1, h => by
    have e : _ = _ := h
    subst e; exact .nil
  | t :: ts, _, n + 1, h => by
    obtain ⟨v, r, rfl, h2, h3⟩ := h
    exact ⟨v, r.take n, rfl, h2, h3.take n⟩
theorem Reps.drop {F : Hp} : ∀ {ts : List T} {vs : List V} (n : Nat), Reps K mg F ts vs → Reps K mg F (ts.drop n) (vs.drop n)
  | _, _, 0, h => h
  | [], _, n + 1, h => by
    have e : _ = _ := h
    subst e; exact .nil
  | t :: ts, _, n + 1, h => by
    obtain ⟨v, r, rfl, h2, h3⟩ := h
    exact h3.drop n
theorem Reps.set {F : Hp} {t : T} {v : V} (ht : Rep K mg F t v) : ∀ {ts : List T} {vs : List V} (n : Nat), Reps K mg F ts vs → Reps K mg F (ts.set n t) (vs.set n v)
  | [], _, _, h => by
    have e : _ = _ := h
    subst e; exact .nil
  | _ :: ts, _, 0, h => by
    obtain ⟨v, r, rfl, h2, h3⟩ := h
    exact ⟨_, r, rfl, ht, h3⟩
  | _ :: ts, _, n + 1, h => by
    obtain ⟨v, r, rfl, h2, h3⟩ := h
    exact ⟨v, _, rfl, h2, h3.set ht n⟩
theorem Reps.of_ints {F : Hp} : ∀ {ns : List Int}, Reps K mg F (ns.map T.int) (ns.map V.int)
  | [] => rfl
  | n :: ns => ⟨_, _, rfl, rfl, Reps.of_ints⟩
end

/-! ### the law's table of code objects -/
def LawTab (K : PySem.W.Frag) (mg : Str → Option Value) (P : Addr) : Prop := ∃ (fa : Addr) (o : Obj) (fd : FuncData) (c : Addr) (e : Value) (dd : Option Addr) (vs : Array Value) (sl : Array (Option Value)), mg "law" = some (.ref fa) ∧ K.lookup fa = some o ∧ o.data = .func fd ∧ fd.code = .ref c ∧ K.lookup c = some ⟨e, dd, .fields vs, sl⟩ ∧ vs[11]? = some (.ref P)
def qLam : Str := ("law" ++ ".<locals>.") ++ "<lambda>"
def TabX (K : PySem.W.Frag) (mg : Str → Option Value) (H : Hp) : Prop := ∀ P, LawTab K mg P → LamX.TabS H P qLam
structure Tb (K : PySem.W.Frag) (mg : Str → Option Value) (F B H : Hp) : Prop where
  x : TabX K mg H
  f : ∀ P, LawTab K mg P → F P = none
  b : ∀ P, LawTab K mg P → B P = none
/-- an object that is neither a table nor a code object -/
def plainO (h : HO) : Prop := (∀ ps, h ≠ .tbl ps) ∧ ∀ g, h = .ext g → ∀ c q, HO.ext g ≠ LamX.CodeO c q
theorem plain_db {a : Addr} {kvs : BKV} : plainO (dbO a kvs) := ⟨fun _ z => (by cases z), fun g z c q e => dbO_code (z.trans e)⟩
theorem ORep.plain {K : PySem.W.Frag} {mg : Str → Option Value} {F : Hp} {o : O} {h : HO} (r : ORep K mg F o h) : plainO h := by
  cases o with
  | l ts => obtain ⟨vs, rfl, _⟩ := r; exact ⟨fun _ z => (by cases z), fun _ z => (by cases z)⟩
  | dk ks ts => obtain ⟨kvs, rfl, _⟩ := r; exact ⟨fun _ z => (by cases z), fun _ z => (by cases z)⟩
  | dt ks ts => obtain ⟨kvs, rfl, _⟩ := r; exact ⟨fun _ z => (by cases z), fun _ z => (by cases z)⟩
  | db ks ts => obtain ⟨a, kvs, rfl, _⟩ := r; exact plain_db
theorem ORep.ntup {K : PySem.W.Frag} {mg : Str → Option Value} {F : Hp} {o : O} {h : HO} (r : ORep K mg F o h) (vs : List V) : h ≠ .tup vs := by
  cases o with
  | l ts => obtain ⟨vs, rfl, _⟩ := r; intro z; cases z
  | dk ks ts => obtain ⟨kvs, rfl, _⟩ := r; intro z; cases z
  | dt ks ts => obtain ⟨kvs, rfl, _⟩ := r; intro z; cases z
  | db ks ts => obtain ⟨a, kvs, rfl, _⟩ := r; intro z; cases z
section
variable {K : PySem.W.Frag} {mg : Str → Option Value} {F F' B B' H H' : Hp}
theorem TabX.ext (t : TabX K mg H) (e : Same H H') : TabX K mg H' := fun P q => (t P q).ext e
theorem tabS_upd {H : Hp} {P a : Addr} {q : Str} {h h' : HO} (t : LamX.TabS H P q) (ha : H a = some h) (p : plainO h) : LamX.TabS (upd H a h') P q := by
  obtain ⟨ps, h1, h2, h3⟩ := t
  have nP : P ≠ a := fun z => by subst z; rw [ha] at h1; exact p.1 ps (Option.some.inj h1)
  refine ⟨ps, by rw [upd_ne nP]; exact h1, h2, fun pos cv hc => ?_⟩
  obtain ⟨c, e1, e2⟩ := h3 pos cv hc
  have nc : c ≠ a := fun z => by subst z; rw [ha] at e2; exact p.2 _ (Option.some.inj e2) _ _ rfl
  exact ⟨c, e1, by rw [upd_ne nc]; exact e2⟩
theorem TabX.upd {a : Addr} {h h' : HO} (t : TabX K mg H) (ha : H a = some h) (p : plainO h) : TabX K mg (upd H a h') := fun P q => tabS_upd (t P q) ha p
theorem TabX.ne {a : Addr} {h : HO} (t : TabX K mg H) (ha : H a = some h) (p : plainO h) {P : Addr} (q : LawTab K mg P) : P ≠ a := fun z => by
  subst z
  obtain ⟨ps, h1, _⟩ := t _ q
  rw [ha] at h1; exact p.1 ps (Option.some.inj h1)
theorem TabX.ne0 {a : Addr} (t : TabX K mg H) (ha : H a = none) {P : Addr} (q : LawTab K mg P) : P ≠ a := fun z => by
  subst z
  obtain ⟨ps, h1, _⟩ := t _ q
  rw [ha] at h1; cases h1
theorem Tb.ext (t : Tb K mg F B H) (e : ∀ b o, H b = some o → H' b = some o) : Tb K mg F B H' := ⟨t.x.ext e, t.f, t.b⟩
theorem Tb.updF {p : Addr} {o : HO} (t : Tb K mg F B H) (n : H p = none) : Tb K mg (L2.upd F p o) B (L2.upd H p o) := ⟨t.x.ext fun b x e => by rw [upd_ne (ne_of_none e n)]; exact e, fun P q => by rw [upd_ne (t.x.ne0 n q)]; exact t.f P q, t.b⟩
theorem Tb.updF2 {p : Addr} {h : HO} (t : Tb K mg F B H) (e : H p = some h) (pl : plainO h) {o : HO} : Tb K mg (L2.upd F p o) B H := ⟨t.x, fun P q => by rw [upd_ne (t.x.ne e pl q)]; exact t.f P q, t.b⟩
theorem Tb.updB {p : Addr} {h : HO} (t : Tb K mg F B H) (e : H p = some h) (pl : plainO h) {o : HO} : Tb K mg F (L2.upd B p o) H := ⟨t.x, t.f, fun P q => by rw [upd_ne (t.x.ne e pl q)]; exact t.b P q⟩
theorem Tb.updH {p : Addr} {h h' : HO} (t : Tb K mg F B H) (e : H p = some h) (pl : plainO h) : Tb K mg F B (L2.upd H p h') := ⟨t.x.upd e pl, t.f, t.b⟩
theorem Tb.lessB (t : Tb K mg F B' H) (s : Same B B') : Tb K mg F B H := ⟨t.x, t.f, fun P q => s.free (t.b P q)⟩
end
/-! ### the state: trees and slots -/
/-- what one slot says -/
def Slot (K : PySem.W.Frag) (mg : Str → Option Value) (B F : Hp) (pm : Option Addr) (rw : List V) (H : Hp) (α : Nat → Addr) (σ : L2.St) (i : Nat) : SV → Prop
  | .un => True
  | .fz t => ∃ v, σ[i]? = some (some v) ∧ Rep K mg F t v
  | .ow o => σ[i]? = some (some (.ref (α i))) ∧ F (α i) = none ∧ B (α i) = none ∧ pm ≠ some (α i) ∧ ∃ h, H (α i) = some h ∧ ORep K mg F o h
  | .pa o => σ[i]? = some (some (.ref (α i))) ∧ F (α i) = none ∧ B (α i) = none ∧ pm = some (α i) ∧ ∃ h, H (α i) = some h ∧ ORep K mg F o h
  | .raw n => ∃ v, σ[i]? = some (some v) ∧ rw[n]? = some v
/-- no object of the ground, or a tuple (that no one changes) -/
def NB (B : Hp) (a : Addr) (o : HO) : Prop := B a = none ∨ ∃ vs, o = .tup vs
structure RS (K : PySem.W.Frag) (mg : Str → Option Value) (B F0 : Hp) (pm : Option Addr) (rw : List V) (F : Hp) (ρ : Env) (σ : L2.St) (H : Hp) : Prop where
  len : ρ.length = σ.length
  fh : Same F H
  bh : Same B H
  f0 : Same F0 F
  fr : ∀ a o, F a = some o → (∃ u, F0 a = some u) ∨ NB B a o
  pt : ∀ a, pm = some a → ∃ o, H a = some o
  tb : Tb K mg F B H
  ex : ∃ α : Nat → Addr, (∀ i x, ρ[i]? = some x → Slot K mg B F pm rw H α σ i x) ∧ ∀ i j x y, ρ[i]? = some x → ρ[j]? = some y → x.owned = true → y.owned = true → i ≠ j → α i ≠ α j
section
variable {K : PySem.W.Frag} {mg : Str → Option Value} {B F0 F F' : Hp} {pm : Option Addr} {rw : List V} {ρ ρ' : Env} {σ σ' : L2.St} {H H' : Hp} {α : Nat → Addr} {i : Nat} {x : SV}
theorem upd_none_of {H : Hp} {p a : Addr} {o : HO} (h : a ≠ p) (e : H a = none) : upd H p o a = none := by rw [upd_ne h]; exact e
theorem same_upd {H : Hp} {p : Addr} {o : HO} (n : H p = none) : Same H (upd H p o) := fun b x e => by
  rw [upd_ne (ne_of_none e n)]
  exact e
theorem same_upd2 {F H : Hp} {p : Addr} {o : HO} (s : Same F H) : Same (L2.upd F p o) (L2.upd H p o) := fun b x e => by
  by_cases hb : b = p
  · subst hb; rw [upd_same] at e ⊢; exact e
  · rw [upd_ne hb] at e ⊢; exact s _ _ e
theorem RS.fnone (R : RS K mg B F0 pm rw F ρ σ H) {p : Addr} (n : H p = none) : F p = none := R.fh.free n
theorem RS.bnone (R : RS K mg B F0 pm rw F ρ σ H) {p : Addr} (n : H p = none) : B p = none := R.bh.free n
/-- the heap has grown (all that was stands); the same trees -/
theorem RS.grow (R : RS K mg B F0 pm rw F ρ σ H) (e : Same H H') : RS K mg B F0 pm rw F ρ σ H' := by
  obtain ⟨α, h1, h2⟩ := R.ex
  refine ⟨R.len, R.fh.trans e, R.bh.trans e, R.f0, R.fr, fun a z => let ⟨o, q⟩ := R.pt a z; ⟨o, e _ _ q⟩, R.tb.ext e, α, fun i x hx => ?_, h2⟩
  have q := h1 i x hx
  cases x with
  | un => trivial
  | fz t => exact q
  | raw n => exact q
  | ow o => obtain ⟨a, b, c, d, h, e1, e2⟩ := q; exact ⟨a, b, c, d, h, e _ _ e1, e2⟩
  | pa o => obtain ⟨a, b, c, d, h, e1, e2⟩ := q; exact ⟨a, b, c, d, h, e _ _ e1, e2⟩
/-- a new object that stays -/
theorem RS.newF {p : Addr} {o : HO} (R : RS K mg B F0 pm rw F ρ σ H) (n : H p = none) : RS K mg B F0 pm rw (upd F p o) ρ σ (upd H p o) := by
  have nF := R.fnone n
  have sF : Same F (upd F p o) := same_upd nF
  have sH : Same H (upd H p o) := same_upd n
  obtain ⟨α, h1, h2⟩ := R.ex
  refine ⟨R.len, same_upd2 R.fh, R.bh.trans sH, R.f0.trans sF, fun a u e => ?_, fun a z => let ⟨o, q⟩ := R.pt a z; ⟨o, sH _ _ q⟩, R.tb.updF n, α, fun i x hx => ?_, h2⟩
  · by_cases ha : a = p
    · subst ha; exact .inr (.inl (R.bnone n))
    · rw [upd_ne ha] at e; exact R.fr a u e
  · have q := h1 i x hx
    cases x with
    | un => trivial
    | fz t => obtain ⟨v, a, b⟩ := q; exact ⟨v, a, b.mono sF⟩
    | raw n => obtain ⟨v, a, b⟩ := q; exact ⟨v, a, b⟩
    | ow o => obtain ⟨a, b, c, d, h, e1, e2⟩ := q; exact ⟨a, upd_none_of (ne_of_none e1 n) b, c, d, h, sH _ _ e1, e2.mono sF⟩
    | pa o => obtain ⟨a, b, c, d, h, e1, e2⟩ := q; exact ⟨a, upd_none_of (ne_of_none e1 n) b, c, d, h, sH _ _ e1, e2.mono sF⟩
theorem RS.slot (R : RS K mg B F0 pm rw F ρ σ H) {t : T} (h : ρ[i]? = some (.fz t)) : ∃ v, σ[i]? = some (some v) ∧ Rep K mg F t v := by
  obtain ⟨α, h1, _⟩ := R.ex
  exact h1 i _ h
/-- a slot is given a tree -/
theorem RS.setF {t : T} {v : V} (R : RS K mg B F0 pm rw F ρ σ H) (i : Nat) (r : Rep K mg F t v) : RS K mg B F0 pm rw F (ρ.set i (.fz t)) (σ.set i (some v)) H := by
  obtain ⟨α, h1, h2⟩ := R.ex
  have hl := R.len
  refine ⟨by simpa using R.len, R.fh, R.bh, R.f0, R.fr, R.pt, R.tb, α, fun j x hx => ?_, fun j k x y hx hy ox oy ne => ?_⟩
  · by_cases hj : j = i
    · subst hj
      have hlt : j < ρ.length := by
        have := (List.getElem?_eq_some_iff.mp hx).1
        simpa using this
      rw [List.getElem?_set_self hlt] at hx
      cases hx
      exact ⟨v, List.getElem?_set_self (by omega), r⟩
    · rw [List.getElem?_set_ne (Ne.symm hj)] at hx
      have q := h1 j x hx
      have es : (σ.set i (some v))[j]? = σ[j]? := List.getElem?_set_ne (Ne.symm hj)
      cases x with
      | un => trivial
      | fz t => obtain ⟨v, a, b⟩ := q; exact ⟨v, es.trans a, b⟩
      | raw n => obtain ⟨v, a, b⟩ := q; exact ⟨v, es.trans a, b⟩
      | ow o => obtain ⟨a, b⟩ := q; exact ⟨es.trans a, b⟩
      | pa o => obtain ⟨a, b⟩ := q; exact ⟨es.trans a, b⟩
  · have g : ∀ m z, (ρ.set i (.fz t))[m]? = some z → z.owned = true → m ≠ i ∧ ρ[m]? = some z := fun m z hz oz => by
      by_cases hm : m = i
      · subst hm
        have hlt : m < ρ.length := by
          have := (List.getElem?_eq_some_iff.mp hz).1
          simpa using this
        rw [List.getElem?_set_self hlt] at hz
        cases hz; cases oz
      · rw [List.getElem?_set_ne (Ne.symm hm)] at hz
        exact ⟨hm, hz⟩
    exact h2 j k x y (g j x hx ox).2 (g k y hy oy).2 ox oy ne
end
/-! ### one slot more -/
section
variable {K : PySem.W.Frag} {mg : Str → Option Value} {B F0 F F' : Hp} {pm : Option Addr} {rw : List V} {ρ ρ' ys : Env} {σ σ' ws : L2.St} {H H' : Hp} {i : Nat} {x : SV}
theorem get_mid {α : Type} {xs ys : List α} {x : α} (j : Nat) : (xs ++ x :: ys)[j]? = if j < xs.length then (xs ++ ys)[j]? else if j = xs.length then some x else (xs ++ ys)[j - 1]? := by
  by_cases h : j < xs.length
  · rw [if_pos h, List.getElem?_append_left h, List.getElem?_append_left h]
  · rw [if_neg h]
    by_cases h2 : j = xs.length
    · rw [if_pos h2]
      subst h2
      rw [List.getElem?_append_right (Nat.le_refl _)]
      simp
    · rw [if_neg h2, List.getElem?_append_right (by omega), List.getElem?_append_right (by omega)]
      have e : j - xs.length = (j - 1 - xs.length) + 1 := by omega
      rw [e, List.getElem?_cons_succ]
/-- a slot put in at the end of ρ -/
theorem RS.ins {B' : Hp} {v : V} {p : Addr} (R : RS K mg B' F0 pm rw F (ρ ++ ys) (σ ++ ws) H) (hl : ρ.length = σ.length) (bb : Same B B')
    (hx : (∃ t, x = .fz t ∧ Rep K mg F t v) ∨ (∃ o h, x = .ow o ∧ v = .ref p ∧ F p = none ∧ B p = none ∧ pm ≠ some p ∧ H p = some h ∧ ORep K mg F o h ∧ ∃ u, B' p = some u)) :
    RS K mg B F0 pm rw F (ρ ++ x :: ys) (σ ++ some v :: ws) H := by
  obtain ⟨α, h1, h2⟩ := R.ex
  have hlen := R.len
  have bn : ∀ a, B' a = none → B a = none := fun a e => bb.free e
  refine ⟨by simp only [List.length_append, List.length_cons] at hlen ⊢; omega, R.fh, bb.trans R.bh, R.f0, fun a o e => (R.fr a o e).imp id (Or.imp (bn a) id), R.pt, R.tb.lessB bb, fun j => if j < ρ.length then α j else if j = ρ.length then p else α (j - 1), fun j y hy => ?_, fun j m y z hy hz oy oz ne => ?_⟩
  · have es : (σ ++ some v :: ws)[j]? = if j < ρ.length then (σ ++ ws)[j]? else if j = ρ.length then some (some v) else (σ ++ ws)[j - 1]? := by rw [get_mid, hl]
    rw [get_mid] at hy
    have step : ∀ m, (ρ ++ ys)[m]? = some y → (σ ++ some v :: ws)[j]? = (σ ++ ws)[m]? → (if j < ρ.length then α j else if j = ρ.length then p else α (j - 1)) = α m → Slot K mg B F pm rw H (fun j => if j < ρ.length then α j else if j = ρ.length then p else α (j - 1)) (σ ++ some v :: ws) j y := fun m hm e1 e2 => by
      have q := h1 m y hm
      cases y with
      | un => trivial
      | fz t => obtain ⟨v', a, b⟩ := q; exact ⟨v', e1.trans a, b⟩
      | raw n => obtain ⟨v', a, b⟩ := q; exact ⟨v', e1.trans a, b⟩
      | ow o => obtain ⟨a, b, c, d⟩ := q; unfold Slot; simp only [e2]; exact ⟨e1.trans a, b, bn _ c, d⟩
      | pa o => obtain ⟨a, b, c, d⟩ := q; unfold Slot; simp only [e2]; exact ⟨e1.trans a, b, bn _ c, d⟩
    by_cases hj : j < ρ.length
    · rw [if_pos hj] at hy es
      exact step j hy es (if_pos hj)
    · rw [if_neg hj] at hy es
      by_cases hj2 : j = ρ.length
      · rw [if_pos hj2] at hy es
        cases hy
        rcases hx with ⟨t, rfl, r⟩ | ⟨o, h, rfl, rfl, e1, e2, e3, e4, e5, _⟩
        · exact ⟨v, es, r⟩
        · unfold Slot
          simp only [if_neg hj, if_pos hj2]
          exact ⟨es, e1, e2, e3, h, e4, e5⟩
      · rw [if_neg hj2] at hy es
        exact step (j - 1) hy es (by rw [if_neg hj, if_neg hj2])
  · -- owned addresses differ
    have cls : ∀ n w, (ρ ++ x :: ys)[n]? = some w → w.owned = true → (∃ m, (ρ ++ ys)[m]? = some w ∧ (if n < ρ.length then α n else if n = ρ.length then p else α (n - 1)) = α m ∧ n = (if m < ρ.length then m else m + 1)) ∨ (n = ρ.length ∧ (if n < ρ.length then α n else if n = ρ.length then p else α (n - 1)) = p ∧ ∃ u, B' p = some u) := fun n w hn ow => by
      rw [get_mid] at hn
      by_cases hj : n < ρ.length
      · rw [if_pos hj] at hn
        exact .inl ⟨n, hn, if_pos hj, (if_pos hj).symm⟩
      · rw [if_neg hj] at hn
        by_cases hj2 : n = ρ.length
        · rw [if_pos hj2] at hn
          cases hn
          rcases hx with ⟨t, rfl, r⟩ | ⟨o, h, rfl, rfl, e1, e2, e3, e4, e5, e6⟩
          · cases ow
          · exact .inr ⟨hj2, by rw [if_neg hj, if_pos hj2], e6⟩
        · rw [if_neg hj2] at hn
          refine .inl ⟨n - 1, hn, by rw [if_neg hj, if_neg hj2], ?_⟩
          rw [if_neg (by omega)]
          omega
    have far : ∀ m w, (ρ ++ ys)[m]? = some w → w.owned = true → B' (α m) = none := fun m w hm ow => by
      have q := h1 m w hm
      cases w with
      | un => cases ow
      | fz t => cases ow
      | raw n => cases ow
      | ow o => exact q.2.2.1
      | pa o => exact q.2.2.1
    show (if j < ρ.length then α j else if j = ρ.length then p else α (j - 1)) ≠ (if m < ρ.length then α m else if m = ρ.length then p else α (m - 1))
    rcases cls j y hy oy with ⟨a, ha, ea, na⟩ | ⟨ea0, ea, u, eu⟩
    · rcases cls m z hz oz with ⟨b, hb, eb, nb⟩ | ⟨eb0, eb, u, eu⟩
      · rw [ea, eb]
        refine h2 a b y z ha hb oy oz fun e => ne ?_
        rw [na, nb, e]
      · rw [ea, eb]
        intro e
        have := far a y ha oy
        rw [e, eu] at this
        cases this
    · rcases cls m z hz oz with ⟨b, hb, eb, nb⟩ | ⟨eb0, eb, _⟩
      · rw [ea, eb]
        intro e
        have := far b z hb oz
        rw [← e, eu] at this
        cases this
      · exact absurd (ea0.trans eb0.symm) ne
/-- a tree put in -/
theorem RS.insF {t : T} {v : V} (R : RS K mg B F0 pm rw F (ρ ++ ys) (σ ++ ws) H) (hl : ρ.length = σ.length) (r : Rep K mg F t v) : RS K mg B F0 pm rw F (ρ ++ .fz t :: ys) (σ ++ some v :: ws) H :=
  R.ins (p := 0) hl (Same.refl _) (.inl ⟨t, rfl, r⟩)
/-- a new object put in at the end -/
theorem RS.newO {o : O} {h : HO} {p : Addr} (R : RS K mg B F0 pm rw F ρ σ H) (r : ORep K mg F o h) (n : H p = none) : RS K mg B F0 pm rw F (ρ ++ [.ow o]) (σ ++ [some (.ref p)]) (upd H p h) := by
  have nF := R.fnone n
  have nB := R.bnone n
  have sH : Same H (upd H p h) := same_upd n
  have npm : pm ≠ some p := fun e => by
    obtain ⟨u, q⟩ := R.pt p e
    rw [n] at q; cases q
  have R1 : RS K mg (upd B p h) F0 pm rw F (ρ ++ []) (σ ++ []) (upd H p h) := by
    rw [List.append_nil, List.append_nil]
    obtain ⟨α, h1, h2⟩ := (R.grow sH).ex
    have nb : ∀ a, a ≠ p → B a = none → upd B p h a = none := fun a ne e => by rw [upd_ne ne]; exact e
    obtain ⟨α0, g1, g2⟩ := R.ex
    refine ⟨R.len, R.fh.trans sH, same_upd2 R.bh, R.f0, fun a u e => ?_, fun a z => let ⟨o, q⟩ := R.pt a z; ⟨o, sH _ _ q⟩, (R.tb.ext sH).updB upd_same r.plain, α0, fun j y hy => ?_, g2⟩
    · rcases R.fr a u e with q | q
      · exact .inl q
      · exact .inr (q.imp (nb a (fun z => by subst z; rw [nF] at e; cases e)) id)
    · have q := g1 j y hy
      cases y with
      | un => trivial
      | fz t => exact q
      | raw n => exact q
      | ow o => obtain ⟨a, b, c, d, u, e1, e2⟩ := q; exact ⟨a, b, nb _ (ne_of_none e1 n) c, d, u, sH _ _ e1, e2⟩
      | pa o => obtain ⟨a, b, c, d, u, e1, e2⟩ := q; exact ⟨a, b, nb _ (ne_of_none e1 n) c, d, u, sH _ _ e1, e2⟩
  exact R1.ins R.len (same_upd nB) (.inr ⟨o, h, rfl, rfl, nF, nB, npm, upd_same, r, h, upd_same⟩)
/-- an object at the end is set aside -/
theorem RS.aside {o : O} {v : V} (R : RS K mg B F0 pm rw F (ρ ++ [.ow o]) (σ ++ [some v]) H) (hl : ρ.length = σ.length) :
    ∃ p h, v = .ref p ∧ F p = none ∧ B p = none ∧ pm ≠ some p ∧ H p = some h ∧ ORep K mg F o h ∧ RS K mg (upd B p h) F0 pm rw F ρ σ H := by
  obtain ⟨α, h1, h2⟩ := R.ex
  have e0 : (ρ ++ [SV.ow o])[ρ.length]? = some (.ow o) := by simp
  obtain ⟨a, b, c, d, u, e1, e2⟩ := h1 ρ.length _ e0
  have ev : v = .ref (α ρ.length) := by
    rw [hl] at a
    simp only [List.getElem?_append_right (Nat.le_refl _), Nat.sub_self, List.getElem?_cons_zero, Option.some.injEq] at a
    rw [hl]; exact a
  have up : ∀ j y, ρ[j]? = some y → j < ρ.length ∧ (ρ ++ [SV.ow o])[j]? = some y := fun j y hy => by
    have hj := (List.getElem?_eq_some_iff.mp hy).1
    exact ⟨hj, by rw [List.getElem?_append_left hj]; exact hy⟩
  refine ⟨α ρ.length, u, ev, b, c, d, e1, e2, ⟨hl, R.fh, fun z w q => ?_, R.f0, fun z w q => ?_, R.pt, R.tb.updB e1 e2.plain, α, fun j y hy => ?_, fun j m y z hy hz oy oz ne => ?_⟩⟩
  · by_cases hz : z = α ρ.length
    · subst hz; rw [upd_same] at q; cases q; exact e1
    · rw [upd_ne hz] at q; exact R.bh _ _ q
  · rcases R.fr z w q with k | k
    · exact .inl k
    · refine .inr (k.imp (fun k => ?_) id)
      rw [upd_ne (fun e => by subst e; rw [b] at q; cases q)]
      exact k
  · obtain ⟨hj, hy'⟩ := up j y hy
    have q := h1 j y hy'
    have es : (σ ++ [some v])[j]? = σ[j]? := List.getElem?_append_left (by omega)
    have ne : y.owned = true → α j ≠ α ρ.length := fun oy => h2 j ρ.length y _ hy' e0 oy rfl (by omega)
    cases y with
    | un => trivial
    | fz t => obtain ⟨v', a, b⟩ := q; exact ⟨v', es ▸ a, b⟩
    | raw n => obtain ⟨v', a, b⟩ := q; exact ⟨v', es ▸ a, b⟩
    | ow o => obtain ⟨a, b, c, d⟩ := q; exact ⟨es ▸ a, b, by rw [upd_ne (ne rfl)]; exact c, d⟩
    | pa o => obtain ⟨a, b, c, d⟩ := q; exact ⟨es ▸ a, b, by rw [upd_ne (ne rfl)]; exact c, d⟩
  · exact h2 j m y z (up j y hy).2 (up m z hz).2 oy oz ne
/-- and taken back -/
theorem RS.back {o : O} {h : HO} {p : Addr} (R : RS K mg (upd B p h) F0 pm rw F' (ρ' ++ ys) (σ ++ ws) H') (hl : ρ'.length = σ.length) (f0 : F0 p = none) (nB : B p = none) (npm : pm ≠ some p) (r : ORep K mg F' o h) :
    RS K mg B F0 pm rw F' (ρ' ++ .ow o :: ys) (σ ++ some (.ref p) :: ws) H' := by
  refine R.ins hl (same_upd nB) (.inr ⟨o, h, rfl, rfl, ?_, nB, npm, R.bh _ _ upd_same, r, h, upd_same⟩)
  cases e : F' p with
  | none => rfl
  | some u =>
    rcases R.fr p u e with ⟨w, q⟩ | q
    · rw [f0] at q; cases q
    · rcases q with q | ⟨vs, rfl⟩
      · rw [upd_same] at q; cases q
      · have e1 := R.fh _ _ e
        rw [R.bh _ _ upd_same] at e1
        exact (r.ntup vs (Option.some.inj e1)).elim
/-- the slot behind ρ goes to the place i -/
theorem RS.pop {x : SV} {v : Option V} (R : RS K mg B F0 pm rw F (ρ ++ x :: ys) (σ ++ v :: ws) H) (hl : ρ.length = σ.length) (i : Nat) (hi : i < ρ.length) : RS K mg B F0 pm rw F (ρ.set i x ++ ys) (σ.set i v ++ ws) H := by
  obtain ⟨α, h1, h2⟩ := R.ex
  have hlen := R.len
  have src : ∀ j y, (ρ.set i x ++ ys)[j]? = some y → ∃ m, (ρ ++ x :: ys)[m]? = some y ∧ (σ.set i v ++ ws)[j]? = (σ ++ v :: ws)[m]? ∧ m = (if j = i then ρ.length else if j < ρ.length then j else j + 1) := fun j y hy => by
    by_cases hj : j < ρ.length
    · have hj2 : j < (ρ.set i x).length := by simpa using hj
      have hj3 : j < (σ.set i v).length := by simp; omega
      rw [List.getElem?_append_left hj2] at hy
      by_cases e : j = i
      · subst e
        rw [List.getElem?_set_self hj] at hy
        cases hy
        refine ⟨ρ.length, by simp, ?_, by simp⟩
        rw [List.getElem?_append_left hj3, List.getElem?_set_self (by omega), hl]
        simp
      · rw [List.getElem?_set_ne (Ne.symm e)] at hy
        refine ⟨j, by rw [List.getElem?_append_left hj]; exact hy, ?_, by rw [if_neg e, if_pos hj]⟩
        rw [List.getElem?_append_left hj3, List.getElem?_set_ne (Ne.symm e), List.getElem?_append_left (by omega)]
    · have hj2 : ¬ j < (ρ.set i x).length := by simpa using hj
      rw [List.getElem?_append_right (by omega)] at hy
      have ei : j ≠ i := by omega
      refine ⟨j + 1, ?_, ?_, by rw [if_neg ei, if_neg hj]⟩
      · rw [List.getElem?_append_right (by omega)]
        have e : j + 1 - ρ.length = (j - ρ.length) + 1 := by omega
        rw [e, List.getElem?_cons_succ]
        simpa using hy
      · rw [List.getElem?_append_right (by simp; omega), List.getElem?_append_right (by omega)]
        have e : j + 1 - σ.length = (j - σ.length) + 1 := by omega
        rw [e, List.getElem?_cons_succ]
        simp
  refine ⟨by simp only [List.length_append, List.length_cons, List.length_set] at hlen ⊢; omega, R.fh, R.bh, R.f0, R.fr, R.pt, R.tb, fun j => α (if j = i then ρ.length else if j < ρ.length then j else j + 1), fun j y hy => ?_, fun j m y z hy hz oy oz ne => ?_⟩
  · obtain ⟨m, hm, es, em⟩ := src j y hy
    have q := h1 m y hm
    cases y with
    | un => trivial
    | fz t => obtain ⟨v', a, b⟩ := q; exact ⟨v', es.trans a, b⟩
    | raw n => obtain ⟨v', a, b⟩ := q; exact ⟨v', es.trans a, b⟩
    | ow o => unfold Slot; simp only [← em]; obtain ⟨a, b⟩ := q; exact ⟨es.trans a, b⟩
    | pa o => unfold Slot; simp only [← em]; obtain ⟨a, b⟩ := q; exact ⟨es.trans a, b⟩
  · obtain ⟨a, ha, _, ea⟩ := src j y hy
    obtain ⟨b, hb, _, eb⟩ := src m z hz
    show α (if j = i then ρ.length else if j < ρ.length then j else j + 1) ≠ α (if m = i then ρ.length else if m < ρ.length then m else m + 1)
    rw [← ea, ← eb]
    refine h2 a b y z ha hb oy oz fun e => ne ?_
    rw [ea, eb] at e
    split at e <;> split at e <;> (try split at e) <;> (try split at e) <;> omega
end
end FL

/-! FL2: readings upon trees; expressions. -/
namespace FL
open PySem PySem.Spec L2

structure Bk where
  B : Hp
  F0 : Hp
  pm : Option Addr
  rw : List V
abbrev RSk (X : Cx) (k : Bk) (F : Hp) (ρ : Env) (σ : L2.St) (H : Hp) : Prop := RS X.K X.mg k.B k.F0 k.pm k.rw F ρ σ H
/-- what is wanted where a tree t has been reckoned -/
abbrev Go (X : Cx) (k : Bk) (F : Hp) (ρ : Env) (σ : L2.St) (t : T) (Q : VK) : Prop := ∀ v F' H', RSk X k F' ρ σ H' → Same F F' → Rep X.K X.mg F' t v → Q v H'
/-- an exception that is let out -/
def Lv (K : PySem.W.Frag) (mg : Str → Option Value) (k : Bk) (H' : Hp) : Prop := Same k.B H' ∧ Same k.F0 H' ∧ (∀ a, k.pm = some a → ∃ o, H' a = some o) ∧ TabX K mg H'
def XOk (K : PySem.W.Frag) (mg : Str → Option Value) (k : Bk) (E : XK) (e : Ex) : Prop := match e with
  | .mk c none => ∀ C H', mg c = some (.ref C) → Lv K mg k H' → E (.ref C) none H'
  | .mk c (some (f, t)) => ∀ C d v F' H', mg c = some (.ref C) → Lv K mg k H' → Same F' H' → Rep K mg F' t v → H' d = some (.xd [(f, v)]) → E (.ref C) (some d) H'
def tE (X : Cx) (E : XK) (f : M T) : TE := fun σ H Q => ∃ k F ρ, RSk X k F ρ σ H ∧ Den (f ρ) (fun t ρ' => Go X k F ρ' σ t Q) (XOk X.K X.mg k E)
def tT (X : Cx) (E : XK) (f : M Bool) : TT := fun σ H Q => ∃ k F ρ, RSk X k F ρ σ H ∧ Den (f ρ) (fun b ρ' => ∀ F' H', RSk X k F' ρ' σ H' → Same F F' → Q b H') (XOk X.K X.mg k E)
def tA (X : Cx) (E : XK) (f : M (List T)) : TA := fun σ H Q => ∃ k F ρ, RSk X k F ρ σ H ∧ Den (f ρ) (fun ts ρ' => ∀ vs F' H', RSk X k F' ρ' σ H' → Same F F' → Reps X.K X.mg F' ts vs → Q vs H') (XOk X.K X.mg k E)
/-- a new object, not yet anyone's: the state with one slot more -/
def tO (X : Cx) (E : XK) (f : M O) : TE := fun σ H Q => ∃ k F ρ, RSk X k F ρ σ H ∧ Den (f ρ) (fun o ρ' => ∀ v F' H', RSk X k F' (ρ' ++ [SV.ow o]) (σ ++ [some v]) H' → Same F F' → ρ'.length = σ.length → Q v H') (XOk X.K X.mg k E)
abbrev FE (X : Cx) (E : XK) (e : Expr) (f : M T) : Prop := PE X e (tE X E f)
abbrev FT (X : Cx) (E : XK) (e : Expr) (f : M Bool) : Prop := PT X e (tT X E f)
abbrev FA (X : Cx) (E : XK) (es : List Expr) (f : M (List T)) : Prop := PA X es (tA X E f)
abbrev FO (X : Cx) (E : XK) (e : Expr) (f : M O) : Prop := PE X e (tO X E f)

theorem pe_imp {X : Cx} {e : Expr} {t t' : TE} (h : PE X e t) (i : ∀ σ H Q, t' σ H Q → t σ H Q) : PE X e t' := ⟨fun pins s σ H Q I q => h.run pins s σ H Q I (i _ _ _ q)⟩
theorem pt_imp {X : Cx} {e : Expr} {t t' : TT} (h : PT X e t) (i : ∀ σ H Q, t' σ H Q → t σ H Q) : PT X e t' := ⟨fun pins s σ H Q I q => h.run pins s σ H Q I (i _ _ _ q)⟩
theorem pw_imp {X : Cx} {e : Expr} {t t' : TT} (h : PW X e t) (i : ∀ σ H Q, t' σ H Q → t σ H Q) : PW X e t' := ⟨fun wh pins s σ H Q I q => h.run wh pins s σ H Q I (i _ _ _ q)⟩
theorem pa_imp {X : Cx} {e : List Expr} {t t' : TA} (h : PA X e t) (i : ∀ σ H Q, t' σ H Q → t σ H Q) : PA X e t' := ⟨fun pos pins s σ H Q I q => h.run pos pins s σ H Q I (i _ _ _ q)⟩
theorem ps_imp {X : Cx} {e : Stmt} {t t' : TS} (h : PS X e t) (i : ∀ D σ H, t' D σ H → t D σ H) : PS X e t' := ⟨fun pins s σ H D I q => h.run pins s σ H D I (i _ _ _ q)⟩

/-- of an option: none is bad -/
def liftO {α : Type} (o : Option α) (ρ : Env) : Res α := match o with
  | some a => .ok a ρ
  | none => .bad
theorem Den.lift {α : Type} {o : Option α} {ρ : Env} {p : α → Env → Prop} {x : Ex → Prop} (h : Den (liftO o ρ) p x) : ∃ a, o = some a ∧ p a ρ := by
  cases o with
  | none => exact h.elim
  | some a => exact ⟨a, rfl, h⟩

section
variable {X : Cx} {E : XK} {a b c e : Expr} {fa fb fc f : M T} {pos : Pos}

/-! ### names and constants -/
/-- a constant tree -/
def rdC (t : T) : M T := fun ρ => .ok t ρ
theorem fe_int {i j pos} : FE X E (.Constant (.int i) j pos) (rdC (.int i)) := pe_imp pe_int fun σ H Q ⟨k, F, ρ, R, h⟩ => h _ F H R (Same.refl _) rfl
theorem fe_bl {b j pos} : FE X E (.Constant (.bool b) j pos) (rdC (.bl b)) := pe_imp pe_bl fun σ H Q ⟨k, F, ρ, R, h⟩ => h _ F H R (Same.refl _) rfl
theorem fe_non {j pos} : FE X E (.Constant .none j pos) (rdC .non) := pe_imp pe_non fun σ H Q ⟨k, F, ρ, R, h⟩ => h _ F H R (Same.refl _) rfl
theorem fe_str {x j pos} : FE X E (.Constant (.str x) j pos) (rdC (.str x)) := pe_imp pe_str fun σ H Q ⟨k, F, ρ, R, h⟩ => h _ F H R (Same.refl _) rfl
/-- a module's constant, an int or a text -/
theorem fe_gint {x : Str} {i : Int} {t : Tok} (hg : Gl X x) (hm : X.mg x = some (.int i t)) (hd : (x == ("__debug__" : Str)) = false := by decide) : FE X E (.Name x pos) (rdC (.int i)) :=
  pe_imp (pe_glob (v := .int i) hg hm ⟨_, rfl⟩ hd) fun σ H Q ⟨k, F, ρ, R, h⟩ => h _ F H R (Same.refl _) rfl
/-! ### operators -/
def op2 (o : T → T → Option T) (fa fb : M T) : M T := fun ρ => (fa ρ).bind fun x ρ => (fb ρ).bind fun y ρ => liftO (o x y) ρ
def op1 (o : T → Option T) (fa : M T) : M T := fun ρ => (fa ρ).bind fun x ρ => liftO (o x) ρ
/-- a rule of values serves an operator of trees -/
def OpT (X : Cx) (r : R2) (o : T → T → Option T) : Prop := ∀ (k : Bk) (F : Hp) (ρ : Env) (σ : L2.St) (H : Hp) (Q : VK) (x y t : T) (v u : V), RSk X k F ρ σ H → Rep X.K X.mg F x v → Rep X.K X.mg F y u → o x y = some t → Go X k F ρ σ t Q → r v u H Q
theorem tOp_of {r : R2} {o : T → T → Option T} (hr : OpT X r o) {σ : L2.St} {H : Hp} {Q : VK} (h : tE X E (op2 o fa fb) σ H Q) : tOp r (tE X E fa) (tE X E fb) σ H Q := by
  obtain ⟨k, F, ρ, R, h⟩ := h
  refine ⟨k, F, ρ, R, (Den.bind h).imp fun x ρ1 h1 v F1 H1 R1 s1 r1 => ?_⟩
  refine ⟨k, F1, ρ1, R1, (Den.bind h1).imp fun y ρ2 h2 u F2 H2 R2 s2 r2 => ?_⟩
  obtain ⟨t, e, q⟩ := Den.lift h2
  exact hr k F2 ρ2 σ H2 Q x y t v u R2 (r1.mono s2) r2 e fun v' F' H' R' s' r' => q v' F' H' R' (s1.trans (s2.trans s')) r'
theorem fe_bin {op : Operator} {r : R2} {o : T → T → Option T} (ho : OpR X (binaryOp op) r) (hr : OpT X r o) (ha : FE X E a fa) (hb : FE X E b fb) : FE X E (.BinOp a op b pos) (op2 o fa fb) :=
  pe_imp (pe_op ho ha hb) fun σ H Q h => tOp_of hr h
theorem fe_cmp {op : CmpOp} {r : R2} {o : T → T → Option T} (ho : OpR X (compareOp op) r) (hr : OpT X r o) (ha : FE X E a fa) (hb : FE X E b fb) (hm : behindInMarks op b = false := by rfl) : FE X E (.Compare a [op] [b] pos) (op2 o fa fb) :=
  pe_imp (pe_cmpR ho ha hb hm) fun σ H Q h => tOp_of hr h
def toB (t : T) : Option Bool := match t with
  | .bl b => some b
  | _ => none
def tst (f : M T) : M Bool := fun ρ => (f ρ).bind fun t ρ => liftO (toB t) ρ
theorem toB_some {t : T} {b : Bool} (h : toB t = some b) : t = .bl b := by
  cases t <;> simp [toB] at h
  subst h; rfl
theorem ft_cmp {op : CmpOp} {r : R2} {o : T → T → Option T} (ho : OpR X (compareOp op) r) (hr : OpT X r o) (ha : FE X E a fa) (hb : FE X E b fb) (hm : behindInMarks op b = false := by rfl) : FT X E (.Compare a [op] [b] pos) (tst (op2 o fa fb)) := by
  refine pt_imp (pt_cmpR ho ha hb hm) fun σ H Q h => ?_
  obtain ⟨k, F, ρ, R, h⟩ := h
  refine tOp_of (o := o) (E := E) hr ⟨k, F, ρ, R, (Den.bind h).imp fun t ρ1 h1 v F1 H1 R1 s1 r1 => ?_⟩
  obtain ⟨b, e, q⟩ := Den.lift h1
  have e1 := toB_some e
  subst e1
  exact ⟨b, r1, q F1 H1 R1 s1⟩
end
end FL

/-! FL3: operators upon trees. -/
namespace FL
open PySem PySem.Spec L2
theorem szL : (sizeLine : Nat) = 16777216 := sizeLine_eq
/-! ### data -/
mutual
def toD : T → Option PyData
  | .non => some .none
  | .bl b => some (.bool b)
  | .int i => some (.int i)
  | .str x => some (.str x)
  | .lst ts => (toDs ts).map PyData.list
  | .sl ts => (toDs ts).map PyData.list
  | .tup ts => (toDs ts).map PyData.tuple
  | .fn _ => none
  | .dk _ _ => none
  | .dt _ _ => none
  | .db _ _ => none
def toDs : List T → Option (List PyData)
  | [] => some []
  | t :: ts => match toD t, toDs ts with
    | some d, some ds => some (d :: ds)
    | _, _ => none
end
section
variable {K : PySem.W.Frag} {mg : Str → Option Value} {F H : Hp}
mutual
theorem dp_of (s : Same F H) : ∀ (t : T) (v : V) (d : PyData), Rep K mg F t v → toD t = some d → Dp K H v d
  | .non, v, d, r, e => by
    have e1 : v = .non := r
    simp only [toD, Option.some.injEq] at e
    subst e1 e; exact .non
  | .bl b, v, d, r, e => by
    have e1 : v = .bl b := r
    simp only [toD, Option.some.injEq] at e
    subst e1 e; exact .bl b
  | .int b, v, d, r, e => by
    have e1 : v = .int b := r
    simp only [toD, Option.some.injEq] at e
    subst e1 e; exact .int b
  | .str b, v, d, r, e => by
    have e1 : v = .str b := r
    simp only [toD, Option.some.injEq] at e
    subst e1 e; exact .str b
  | .lst ts, v, d, r, e => by
    obtain ⟨a, vs, e1, h, rs⟩ := r
    simp only [toD, Option.map_eq_some_iff] at e
    obtain ⟨ds, e2, e3⟩ := e
    subst e1 e3
    exact .lst (SqL.of (s _ _ h)) (dps_of s ts vs ds rs e2)
  | .sl ts, v, d, r, e => by
    obtain ⟨a, vs, e1, h, rs⟩ := r
    simp only [toD, Option.map_eq_some_iff] at e
    obtain ⟨ds, e2, e3⟩ := e
    subst e1 e3
    exact .lst (same_SqL s h) (dps_of s ts vs ds rs e2)
  | .tup ts, v, d, r, e => by
    obtain ⟨a, vs, e1, h, rs⟩ := r
    simp only [toD, Option.map_eq_some_iff] at e
    obtain ⟨ds, e2, e3⟩ := e
    subst e1 e3
    exact .tup (same_SqT s h) (dps_of s ts vs ds rs e2)
  | .fn _, _, _, _, e => by cases e
  | .dk _ _, _, _, _, e => by cases e
  | .dt _ _, _, _, _, e => by cases e
  | .db _ _, _, _, _, e => by cases e
theorem dps_of (s : Same F H) : ∀ (ts : List T) (vs : List V) (ds : List PyData), Reps K mg F ts vs → toDs ts = some ds → DpAll K H vs ds
  | [], vs, ds, r, e => by
    have e1 : vs = [] := r
    simp only [toDs, Option.some.injEq] at e
    subst e1 e; exact .nil
  | t :: ts, vs, ds, r, e => by
    obtain ⟨v, w, e1, r1, r2⟩ := r
    subst e1
    unfold toDs at e
    split at e
    · rename_i d ds' h1 h2
      simp only [Option.some.injEq] at e
      subst e
      exact .cons (dp_of s t v d r1 h1) (dps_of s ts w ds' r2 h2)
    · cases e
end
end
/-- flat values -/
def flatT : T → Option V
  | .non => some .non
  | .bl b => some (.bl b)
  | .int i => some (.int i)
  | .str x => some (.str x)
  | _ => none
theorem flat_rep {K : PySem.W.Frag} {mg : Str → Option Value} {F : Hp} {t : T} {v w : V} (r : Rep K mg F t v) (e : flatT t = some w) : v = w := by
  cases t <;> simp only [flatT, Option.some.injEq, reduceCtorEq] at e <;> subst e <;> exact r
/-- == -/
def eqT (x y : T) : Option Bool := match flatT x, flatT y with
  | some v, some u => if scal v u then some (decide (v = u)) else match toD x, toD y with
    | some d, some e => if SeqAt.shaped d && SeqAt.shaped e then some (PyData.eqv d e) else none
    | _, _ => none
  | _, _ => match toD x, toD y with
    | some d, some e => if SeqAt.shaped d && SeqAt.shaped e then some (PyData.eqv d e) else none
    | _, _ => none
def eqO (x y : T) : Option T := (eqT x y).map T.bl
def neO (x y : T) : Option T := (eqT x y).map fun b => T.bl (!b)
section
variable {X : Cx}
theorem eqT_cases {k : Bk} {F : Hp} {ρ : Env} {σ : L2.St} {H : Hp} {x y : T} {v u : V} {b : Bool} (R : RSk X k F ρ σ H) (rx : Rep X.K X.mg F x v) (ry : Rep X.K X.mg F y u) (e : eqT x y = some b) :
    (scal v u = true ∧ decide (v = u) = b) ∨ ∃ d e, Dp X.K H v d ∧ Dp X.K H u e ∧ SeqAt.shaped d = true ∧ SeqAt.shaped e = true ∧ PyData.eqv d e = b := by
  have dat : ∀ {b}, (match toD x, toD y with
      | some d, some e => if SeqAt.shaped d && SeqAt.shaped e then some (PyData.eqv d e) else none
      | _, _ => none) = some b → ∃ d e, Dp X.K H v d ∧ Dp X.K H u e ∧ SeqAt.shaped d = true ∧ SeqAt.shaped e = true ∧ PyData.eqv d e = b := fun {b} q => by
    split at q
    · rename_i d e hd he
      split at q
      · rename_i hs
        rw [Bool.and_eq_true] at hs
        exact ⟨d, e, dp_of R.fh x v d rx hd, dp_of R.fh y u e ry he, hs.1, hs.2, Option.some.inj q⟩
      · cases q
    · cases q
  unfold eqT at e
  split at e
  · rename_i v' u' h1 h2
    have e1 := flat_rep rx h1
    have e2 := flat_rep ry h2
    subst e1 e2
    split at e
    · rename_i hs
      exact .inl ⟨hs, Option.some.inj e⟩
    · exact .inr (dat e)
  · exact .inr (dat e)
def rEqT (X : Cx) : R2 := fun x y H Q => rEq x y H Q ∨ rEqD X.K x y H Q
def rNeT (X : Cx) : R2 := fun x y H Q => rNe x y H Q ∨ rNeD X.K x y H Q
theorem op_eqT (hu : X.A.units + 64 < cLine) : OpR X (compareOp .Eq) (rEqT X) := op_eq.or (op_eqD hu)
theorem op_neT (hu : X.A.units + 64 < cLine) : OpR X (compareOp .NotEq) (rNeT X) := op_ne.or (op_neD hu)
theorem ot_eq : OpT X (rEqT X) eqO := fun k F ρ σ H Q x y t v u R rx ry e g => by
  unfold eqO at e
  rw [Option.map_eq_some_iff] at e
  obtain ⟨b, e, rfl⟩ := e
  rcases eqT_cases R rx ry e with ⟨h1, h2⟩ | ⟨d, e', h1, h2, h3, h4, h5⟩
  · exact .inl ⟨h1, by rw [h2]; exact g (.bl b) F H R (Same.refl _) rfl⟩
  · exact .inr ⟨d, e', h1, h2, h3, h4, by rw [h5]; exact g (.bl b) F H R (Same.refl _) rfl⟩
theorem ot_ne : OpT X (rNeT X) neO := fun k F ρ σ H Q x y t v u R rx ry e g => by
  unfold neO at e
  rw [Option.map_eq_some_iff] at e
  obtain ⟨b, e, rfl⟩ := e
  rcases eqT_cases R rx ry e with ⟨h1, h2⟩ | ⟨d, e', h1, h2, h3, h4, h5⟩
  · exact .inl ⟨h1, by rw [h2]; exact g (.bl (!b)) F H R (Same.refl _) rfl⟩
  · exact .inr ⟨d, e', h1, h2, h3, h4, by rw [h5]; exact g (.bl (!b)) F H R (Same.refl _) rfl⟩

/-! ### ints -/
def intO (f : Int → Int → T) (x y : T) : Option T := match x, y with
  | .int i, .int j => some (f i j)
  | _, _ => none
theorem intO_some {f : Int → Int → T} {x y t : T} (h : intO f x y = some t) : ∃ i j, x = .int i ∧ y = .int j ∧ t = f i j := by
  unfold intO at h
  split at h
  · exact ⟨_, _, rfl, rfl, (Option.some.inj h).symm⟩
  · cases h
theorem ot_int {g : Int → Int → V} {f : Int → Int → T} (hf : ∀ i j K mg F, Rep K mg F (f i j) (g i j)) : OpT X (rI0 g) (intO f) := fun k F ρ σ H Q x y t v u R rx ry e q => by
  obtain ⟨i, j, rfl, rfl, rfl⟩ := intO_some e
  exact ⟨i, j, rx, ry, q _ F H R (Same.refl _) (hf i j _ _ _)⟩
abbrev leO := intO fun i j => .bl (decide (i ≤ j))
abbrev gtO := intO fun i j => .bl (decide (j < i))
abbrev geO := intO fun i j => .bl (decide (j ≤ i))
theorem ot_le : OpT X (rI0 fun i j => .bl (decide (i ≤ j))) leO := ot_int fun _ _ _ _ _ => rfl
theorem ot_gt : OpT X (rI0 fun i j => .bl (decide (j < i))) gtO := ot_int fun _ _ _ _ _ => rfl
theorem ot_ge : OpT X (rI0 fun i j => .bl (decide (j ≤ i))) geO := ot_int fun _ _ _ _ _ => rfl
/-- with a condition -/
def intC (c : Int → Int → Bool) (f : Int → Int → Int) (x y : T) : Option T := match x, y with
  | .int i, .int j => if c i j then some (.int (f i j)) else none
  | _, _ => none
theorem intC_some {c : Int → Int → Bool} {f : Int → Int → Int} {x y t : T} (h : intC c f x y = some t) : ∃ i j, x = .int i ∧ y = .int j ∧ c i j = true ∧ t = .int (f i j) := by
  unfold intC at h
  split at h
  · split at h
    · rename_i hc
      exact ⟨_, _, rfl, rfl, hc, (Option.some.inj h).symm⟩
    · cases h
  · cases h
theorem ot_intC {C : Int → Int → Prop} {c : Int → Int → Bool} {f g : Int → Int → Int} (hc : ∀ i j, c i j = true → C i j ∧ f i j = g i j) : OpT X (rI C fun i j => .int (g i j)) (intC c f) := fun k F ρ σ H Q x y t v u R rx ry e q => by
  obtain ⟨i, j, rfl, rfl, h, rfl⟩ := intC_some e
  obtain ⟨h1, h2⟩ := hc i j h
  exact ⟨i, j, rx, ry, h1, q _ F H R (Same.refl _) (by rw [h2]; rfl)⟩
def CMulY (i j : Int) : Prop := i.natAbs.log2 + j.natAbs.log2 < 100000000
theorem CMulY.ok {i j : Int} (h : CMulY i j) : IntMulOk i j := by
  unfold CMulY at h
  exact (mulx_ok (a := i.natAbs.log2 + 1) (b := j.natAbs.log2 + 1) Nat.lt_log2_self Nat.lt_log2_self (by omega)).ok
theorem op_mulY {X : Cx} : OpR X (binaryOp .Mult) (rI CMulY fun i j => .int (i * j)) := opI fun _ _ _ _ _ _ _ hc q => PyProof.Rows.mul_int q hc.ok
def mulC (i j : Int) : Bool := decide (i.natAbs.log2 + j.natAbs.log2 < 100000000)
abbrev mulI := intC mulC fun i j => i * j
theorem ot_mulI : OpT X (rI CMulY fun i j => .int (i * j)) mulI := ot_intC fun i j h => ⟨(show i.natAbs.log2 + j.natAbs.log2 < 100000000 from of_decide_eq_true h), rfl⟩
abbrev modO := intC (fun _ j => decide (j ≠ 0)) fun i j => i.fmod j
theorem ot_mod : OpT X (rI (fun _ j => j ≠ 0) fun i j => .int (i.fmod j)) modO := ot_intC fun i j h => ⟨of_decide_eq_true h, rfl⟩
def powC (i j : Int) : Bool := decide (0 ≤ j) && decide (j ≤ 1000000) && decide (i.natAbs < 2 ^ 64)
abbrev powO := intC powC fun i j => i ^ j.toNat
theorem ot_pow : OpT X (rI CPow fun i j => .int (i ^ j.toNat)) powO := ot_intC fun i j h => by
  unfold powC at h
  rw [Bool.and_eq_true, Bool.and_eq_true] at h
  exact ⟨⟨of_decide_eq_true h.1.1, of_decide_eq_true h.1.2, of_decide_eq_true h.2⟩, rfl⟩
/-! ### + -/
def addO (x y : T) : Option T := match x, y with
  | .int i, .int j => some (.int (i + j))
  | .str a, .str b => if a.length + b.length ≤ 16777216 then some (.str (a ++ b)) else none
  | .lst a, .lst b => if a.length + b.length ≤ 16777216 then some (.lst (a ++ b)) else none
  | .tup a, .tup b => if a.length + b.length ≤ 16777216 then some (.tup (a ++ b)) else none
  | _, _ => none
def rStrAdd : R2 := fun x y H Q => ∃ i j, x = .str i ∧ y = .str j ∧ i.length + j.length ≤ sizeLine ∧ Q (.str (i ++ j)) H
def rAddT (X : Cx) : R2 := fun x y H Q => (rI0 (fun i j => .int (i + j)) x y H Q) ∨ (rStrAdd x y H Q) ∨ rCat x y H Q ∨ rCatA X.K x y H Q
theorem op_addT : OpR X (binaryOp .Add) (rAddT X) := op_add.or (OpR.or op_add_str (op_cat.or op_catA))
theorem ot_add : OpT X (rAddT X) addO := fun k F ρ σ H Q x y t v u R rx ry e q => by
  unfold addO at e
  split at e
  · rename_i i j
    cases e
    exact .inl ⟨i, j, rx, ry, q _ F H R (Same.refl _) rfl⟩
  · rename_i a b
    split at e
    · rename_i hz
      cases e
      exact .inr (.inl ⟨a, b, rx, ry, by rw [szL]; exact hz, q _ F H R (Same.refl _) rfl⟩)
    · cases e
  · rename_i a b
    split at e
    · rename_i hz
      cases e
      obtain ⟨l, xs, rfl, h1, r1⟩ := rx
      obtain ⟨m, ys, rfl, h2, r2⟩ := ry
      rw [r1.length, r2.length] at hz
      refine .inr (.inr (.inl ⟨l, m, xs, ys, rfl, rfl, R.fh _ _ h1, R.fh _ _ h2, by rw [szL]; exact hz, fun p np => ?_⟩))
      have sF : Same F (upd F p (.lst (xs ++ ys))) := same_upd (R.fnone np)
      exact q _ _ _ (R.newF np) sF ⟨p, xs ++ ys, rfl, upd_same, (r1.append r2).mono sF⟩
    · cases e
  · rename_i a b
    split at e
    · rename_i hz
      cases e
      obtain ⟨l, xs, rfl, h1, r1⟩ := rx
      obtain ⟨m, ys, rfl, h2, r2⟩ := ry
      have la := r1.length
      have lb := r2.length
      rw [la, lb] at hz
      refine .inr (.inr (.inr ⟨l, m, xs, ys, rfl, rfl, same_SqT R.fh h1, same_SqT R.fh h2, by rw [szL]; exact hz, fun z => ?_, fun z1 z2 => ?_, fun z1 z2 p np => ?_⟩))
      · subst z
        have ea : a = [] := List.eq_nil_of_length_eq_zero (by simpa using la)
        subst ea
        exact q _ F H R (Same.refl _) ⟨m, ys, rfl, h2, r2⟩
      · subst z2
        have eb : b = [] := List.eq_nil_of_length_eq_zero (by simpa using lb)
        subst eb
        exact q _ F H R (Same.refl _) ⟨l, xs, rfl, h1, by rw [List.append_nil]; exact r1⟩
      · have sF : Same F (upd F p (.tup (xs ++ ys))) := same_upd (R.fnone np)
        exact q _ _ _ (R.newF np) sF ⟨p, xs ++ ys, rfl, upd_same, (r1.append r2).mono sF⟩
    · cases e
  · cases e
/-! ### list * int -/
def mulO (x y : T) : Option T := match x, y with
  | .lst a, .int k => if k < 16777216 && a.length * k.toNat ≤ 16777216 && decide (-16777216 ≤ k) then some (.lst (List.replicate k.toNat a).flatten) else none
  | x, y => mulI x y
def rMulT (X : Cx) : R2 := fun x y H Q => rI CMulY (fun i j => .int (i * j)) x y H Q ∨ rRep x y H Q
theorem op_mulT : OpR X (binaryOp .Mult) (rMulT X) := op_mulY.or op_rep
theorem Reps.rep {K : PySem.W.Frag} {mg : Str → Option Value} {F : Hp} {ts : List T} {vs : List V} (r : Reps K mg F ts vs) : ∀ n : Nat, Reps K mg F (List.replicate n ts).flatten (List.replicate n vs).flatten
  | 0 => by simp [Reps]
  | n + 1 => by
    rw [List.replicate_succ, List.replicate_succ, List.flatten_cons, List.flatten_cons]
    exact r.append (r.rep n)
theorem ot_mul : OpT X (rMulT X) mulO := fun k F ρ σ H Q x y t v u R rx ry e q => by
  unfold mulO at e
  split at e
  · rename_i a k
    split at e
    · rename_i hc
      cases e
      rw [Bool.and_eq_true, Bool.and_eq_true] at hc
      have h1 := of_decide_eq_true hc.1.1
      have h2 := of_decide_eq_true hc.1.2
      have h3 := of_decide_eq_true hc.2
      obtain ⟨l, xs, rfl, hl, r1⟩ := rx
      rw [r1.length] at h2
      refine .inr ⟨l, k, xs, rfl, ry, R.fh _ _ hl, by omega, by omega, by rw [szL]; exact h2, fun p np => ?_⟩
      have sF : Same F (upd F p (.lst (List.replicate k.toNat xs).flatten)) := same_upd (R.fnone np)
      exact q _ _ _ (R.newF np) sF ⟨p, _, rfl, upd_same, (r1.rep _).mono sF⟩
    · cases e
  · exact .inl (ot_mulI k F ρ σ H Q x y t v u R rx ry e q)
/-! ### is -/
def isNO (neg : Bool) (x y : T) : Option T := match y with
  | .non => match x with
    | .non => some (.bl (!neg))
    | .fn _ => none
    | _ => some (.bl neg)
  | .bl b => match x with
    | .bl a => some (.bl (if neg then !decide (a = b) else decide (a = b)))
    | _ => none
  | _ => none
theorem rep_non {K : PySem.W.Frag} {mg : Str → Option Value} {F : Hp} {t : T} {v : V} (r : Rep K mg F t v) (h : t ≠ .non) : v ≠ .non := by
  intro e
  subst e
  cases t with
  | non => exact h rfl
  | bl _ => cases r
  | int _ => cases r
  | str _ => cases r
  | lst _ => obtain ⟨_, _, e, _⟩ := r; cases e
  | tup _ => obtain ⟨_, _, e, _⟩ := r; cases e
  | sl _ => obtain ⟨_, _, e, _⟩ := r; cases e
  | fn _ => obtain ⟨_, e, _⟩ := r; cases e
  | dk _ _ => obtain ⟨_, _, e, _⟩ := r; cases e
  | dt _ _ => obtain ⟨_, _, e, _⟩ := r; cases e
  | db _ _ => obtain ⟨_, _, _, e, _⟩ := r; cases e
def rIsT : R2 := fun x y H Q => (y = .non ∧ Q (.bl (decide (x = .non))) H) ∨ rIsB x y H Q
def rNotT : R2 := fun x y H Q => (y = .non ∧ Q (.bl (!decide (x = .non))) H) ∨ rNotB x y H Q
theorem op_isT : OpR X (compareOp .Is) rIsT := op_isN.or op_isBl
theorem op_notT : OpR X (compareOp .IsNot) rNotT := op_notN.or op_notBl
theorem ot_is : OpT X rIsT (isNO false) := fun k F ρ σ H Q x y t v u R rx ry e q => by
  have go : ∀ b, t = .bl b → Q (.bl b) H := fun b z => q _ F H R (Same.refl _) (by subst z; rfl)
  cases y <;> simp only [isNO, reduceCtorEq] at e
  · have eu : u = .non := ry
    refine .inl ⟨eu, ?_⟩
    cases x <;> simp only [Option.some.injEq, reduceCtorEq] at e
    · have ev : v = .non := rx
      rw [decide_eq_true ev]
      exact go _ e.symm
    all_goals
      rw [decide_eq_false (rep_non rx (fun z => nomatch z))]
      exact go _ e.symm
  · cases x <;> simp only [Option.some.injEq, reduceCtorEq] at e
    exact .inr ⟨_, _, rx, ry, go _ e.symm⟩
theorem ot_not : OpT X rNotT (isNO true) := fun k F ρ σ H Q x y t v u R rx ry e q => by
  have go : ∀ b, t = .bl b → Q (.bl b) H := fun b z => q _ F H R (Same.refl _) (by subst z; rfl)
  cases y <;> simp only [isNO, reduceCtorEq] at e
  · have eu : u = .non := ry
    refine .inl ⟨eu, ?_⟩
    cases x <;> simp only [Option.some.injEq, reduceCtorEq] at e
    · have ev : v = .non := rx
      rw [decide_eq_true ev]
      exact go _ e.symm
    all_goals
      rw [decide_eq_false (rep_non rx (fun z => nomatch z))]
      exact go _ e.symm
  · cases x <;> simp only [Option.some.injEq, reduceCtorEq] at e
    exact .inr ⟨_, _, rx, ry, go _ e.symm⟩
end
end FL

/-! FL4: tests, displays, subscripts, calls of built-ins. -/
namespace FL
open PySem PySem.Spec L2
section
variable {X : Cx} {E : XK} {a b c e : Expr} {fa fb fc f : M T} {pos : Pos} {es rest : List Expr} {g ga gb : M Bool} {fs : M (List T)}

/-! ### truth -/
def tru (t : T) : Option Bool := match t with
  | .non => some false
  | .bl b => some b
  | .int i => some (i != 0)
  | .str x => if x.length ≤ 16777216 then some ((x.length : Int) != 0) else none
  | .lst ts => some (!ts.isEmpty)
  | .sl ts => some (!ts.isEmpty)
  | .tup ts => some (!ts.isEmpty)
  | _ => none
def truth (f : M T) : M Bool := fun ρ => (f ρ).bind fun t ρ => liftO (tru t) ρ
theorem Reps.isEmpty {K : PySem.W.Frag} {mg : Str → Option Value} {F : Hp} : ∀ {ts : List T} {vs : List V}, Reps K mg F ts vs → (!ts.isEmpty) = !vs.isEmpty
  | [], _, h => by
    have e : _ = _ := h
    subst e; rfl
  | t :: ts, _, h => by
    obtain ⟨v, r, rfl, _, _⟩ := h
    rfl
theorem tru_rep {K : PySem.W.Frag} {mg : Str → Option Value} {F H : Hp} {t : T} {v : V} {k : Bool} (s : Same F H) (r : Rep K mg F t v) (e : tru t = some k) : TruV K v H k := by
  cases t <;> simp only [tru, Option.some.injEq, reduceCtorEq] at e
  · have ev : v = .non := r
    subst ev; exact e.symm
  · have ev : v = .bl _ := r
    subst ev; exact e.symm
  · have ev : v = .int _ := r
    subst ev; exact e.symm
  · have ev : v = .str _ := r
    subst ev
    split at e
    · rename_i hz
      exact ⟨by rw [szL]; exact hz, (Option.some.inj e).symm⟩
    · cases e
  · obtain ⟨p, vs, rfl, h1, h2⟩ := r
    exact .inl ⟨vs, SqL.of (s _ _ h1), by rw [← h2.isEmpty]; exact e.symm⟩
  · obtain ⟨p, vs, rfl, h1, h2⟩ := r
    exact .inr (.inl ⟨vs, same_SqT s h1, by rw [← h2.isEmpty]; exact e.symm⟩)
  · obtain ⟨p, vs, rfl, h1, h2⟩ := r
    exact .inl ⟨vs, same_SqL s h1, by rw [← h2.isEmpty]; exact e.symm⟩
/-- an expression that is no comparison, not, and, or: by its truth -/
theorem ft_val (ha : FE X E a f) (he : ∀ whole, isTrue a X.env whole = (do let v ← whole; standAt a.pos; holding [v] (truthy v)) := by intro _; rfl) : FT X E a (truth f) := by
  refine pt_imp (pt_truth ha he) fun σ H Q h => ?_
  obtain ⟨k, F, ρ, R, h⟩ := h
  refine ⟨k, F, ρ, R, (Den.bind h).imp fun t ρ1 h1 v F1 H1 R1 s1 r1 => ?_⟩
  obtain ⟨b, e, q⟩ := Den.lift h1
  exact ⟨b, tru_rep R1.fh r1 e, q F1 H1 R1 s1⟩

/-! ### and, or, not -/
def andV (fa fb : M T) : M T := fun ρ => (fa ρ).bind fun t ρ => match toB t with
  | some true => fb ρ
  | some false => .ok (.bl false) ρ
  | none => .bad
def notV (fa : M T) : M T := fun ρ => (fa ρ).bind fun t ρ => match toB t with
  | some b => .ok (.bl (!b)) ρ
  | none => .bad
theorem fe_one {op} (h : FE X E a f) : FE X E (.BoolOp op [a] pos) f := pe_one h
theorem fe_and (ha : FE X E a fa) (hb : FE X E (.BoolOp .And (b :: rest) pos) fb) : FE X E (.BoolOp .And (a :: b :: rest) pos) (andV fa fb) := by
  refine pe_imp (pe_and ha hb) fun σ H Q h => ?_
  obtain ⟨k, F, ρ, R, h⟩ := h
  refine ⟨k, F, ρ, R, (Den.bind h).imp fun t ρ1 h1 v F1 H1 R1 s1 r1 => ?_⟩
  split at h1
  · rename_i e
    have e1 := toB_some e
    subst e1
    exact ⟨true, r1, k, F1, ρ1, R1, h1.imp fun t ρ' q v F' H' R' s' r' => q v F' H' R' (s1.trans s') r'⟩
  · rename_i e
    have e1 := toB_some e
    subst e1
    exact ⟨false, r1, h1 _ F1 H1 R1 s1 rfl⟩
  · exact h1.elim
theorem fe_not (ha : FE X E a fa) : FE X E (.UnaryOp .Not a pos) (notV fa) := by
  refine pe_imp (pe_not ha) fun σ H Q h => ?_
  obtain ⟨k, F, ρ, R, h⟩ := h
  refine ⟨k, F, ρ, R, (Den.bind h).imp fun t ρ1 h1 v F1 H1 R1 s1 r1 => ?_⟩
  split at h1
  · rename_i b e
    have e1 := toB_some e
    subst e1
    exact ⟨b, r1, h1 _ F1 H1 R1 s1 rfl⟩
  · exact h1.elim
abbrev FW (X : Cx) (E : XK) (e : Expr) (f : M Bool) : Prop := PW X e (tT X E f)
def andT (ga gb : M Bool) : M Bool := fun ρ => (ga ρ).bind fun b ρ => if b = true then gb ρ else .ok false ρ
def orT (ga gb : M Bool) : M Bool := fun ρ => (ga ρ).bind fun b ρ => if b = true then .ok true ρ else gb ρ
def notT (ga : M Bool) : M Bool := fun ρ => (ga ρ).bind fun b ρ => .ok (!b) ρ
theorem fw_and1 (ha : FT X E a g) : FW X E (.BoolOp .And [a] pos) g := pw_and1 ha
theorem fw_or1 (ha : FT X E a g) : FW X E (.BoolOp .Or [a] pos) g := pw_or1 ha
theorem fw_and (ha : FT X E a ga) (hb : FW X E (.BoolOp .And (b :: rest) pos) gb) : FW X E (.BoolOp .And (a :: b :: rest) pos) (andT ga gb) := by
  refine pw_imp (pw_and ha hb) fun σ H Q h => ?_
  obtain ⟨k, F, ρ, R, h⟩ := h
  refine ⟨k, F, ρ, R, (Den.bind h).imp fun t ρ1 h1 F1 H1 R1 s1 => ?_⟩
  split at h1
  · rename_i e
    rw [if_pos e]
    exact ⟨k, F1, ρ1, R1, h1.imp fun t ρ' q F' H' R' s' => q F' H' R' (s1.trans s')⟩
  · rename_i e
    rw [if_neg e]
    exact h1 F1 H1 R1 s1
theorem fw_or (ha : FT X E a ga) (hb : FW X E (.BoolOp .Or (b :: rest) pos) gb) : FW X E (.BoolOp .Or (a :: b :: rest) pos) (orT ga gb) := by
  refine pw_imp (pw_or ha hb) fun σ H Q h => ?_
  obtain ⟨k, F, ρ, R, h⟩ := h
  refine ⟨k, F, ρ, R, (Den.bind h).imp fun t ρ1 h1 F1 H1 R1 s1 => ?_⟩
  split at h1
  · rename_i e
    rw [if_pos e]
    exact h1 F1 H1 R1 s1
  · rename_i e
    rw [if_neg e]
    exact ⟨k, F1, ρ1, R1, h1.imp fun t ρ' q F' H' R' s' => q F' H' R' (s1.trans s')⟩
theorem ft_w (h : FW X E a g) : FT X E a g := h.pt
theorem ft_not (ha : FT X E a ga) : FT X E (.UnaryOp .Not a pos) (notT ga) := by
  refine pt_imp (pt_not ha) fun σ H Q h => ?_
  obtain ⟨k, F, ρ, R, h⟩ := h
  exact ⟨k, F, ρ, R, (Den.bind h).imp fun t ρ1 h1 F1 H1 R1 s1 => h1 F1 H1 R1 s1⟩
def ifE (ga : M Bool) (fa fb : M T) : M T := fun ρ => (ga ρ).bind fun b ρ => if b = true then fa ρ else fb ρ
theorem fe_if (hc : FT X E c g) (ha : FE X E a fa) (hb : FE X E b fb) : FE X E (.IfExp c a b pos) (ifE g fa fb) := by
  refine pe_imp (pe_ifExp hc ha hb) fun σ H Q h => ?_
  obtain ⟨k, F, ρ, R, h⟩ := h
  refine ⟨k, F, ρ, R, (Den.bind h).imp fun t ρ1 h1 F1 H1 R1 s1 => ?_⟩
  split at h1
  · rename_i e
    rw [if_pos e]
    exact ⟨k, F1, ρ1, R1, h1.imp fun t ρ' q v F' H' R' s' r' => q v F' H' R' (s1.trans s') r'⟩
  · rename_i e
    rw [if_neg e]
    exact ⟨k, F1, ρ1, R1, h1.imp fun t ρ' q v F' H' R' s' r' => q v F' H' R' (s1.trans s') r'⟩
/-- a op1 b op2 c -/
def chn (o o' : T → T → Option T) (fa fb fc : M T) : M T := fun ρ => (fa ρ).bind fun x ρ => (fb ρ).bind fun y ρ => match (o x y).bind toB with
  | some true => (fc ρ).bind fun z ρ => liftO (o' y z) ρ
  | some false => .ok (.bl false) ρ
  | none => .bad
theorem tChain_of {r r' : R2} {o o' : T → T → Option T} (hr : OpT X r o) (hr' : OpT X r' o') {σ : L2.St} {H : Hp} {Q : VK} (h : tE X E (chn o o' fa fb fc) σ H Q) : tChain r r' (tE X E fa) (tE X E fb) (tE X E fc) σ H Q := by
  obtain ⟨k, F, ρ, R, h⟩ := h
  refine ⟨k, F, ρ, R, (Den.bind h).imp fun x ρ1 h1 v F1 H1 R1 s1 r1 => ?_⟩
  refine ⟨k, F1, ρ1, R1, (Den.bind h1).imp fun y ρ2 h2 u F2 H2 R2 s2 r2 => ?_⟩
  split at h2
  · rename_i e
    rw [Option.bind_eq_some_iff] at e
    obtain ⟨t, e1, e2⟩ := e
    have e3 := toB_some e2
    subst e3
    refine hr k F2 ρ2 σ H2 _ x y _ v u R2 (r1.mono s2) r2 e1 fun z F3 H3 R3 s3 r3 => ⟨true, r3, ?_⟩
    rw [if_pos rfl]
    refine ⟨k, F3, ρ2, R3, (Den.bind h2).imp fun z' ρ4 h4 w F4 H4 R4 s4 r4 => ?_⟩
    obtain ⟨t', e', q⟩ := Den.lift h4
    exact hr' k F4 ρ4 σ H4 Q y z' t' u w R4 (r2.mono (s3.trans s4)) r4 e' fun v' F' H' R' s' r' => q v' F' H' R' (s1.trans (s2.trans (s3.trans (s4.trans s')))) r'
  · rename_i e
    rw [Option.bind_eq_some_iff] at e
    obtain ⟨t, e1, e2⟩ := e
    have e3 := toB_some e2
    subst e3
    refine hr k F2 ρ2 σ H2 _ x y _ v u R2 (r1.mono s2) r2 e1 fun z F3 H3 R3 s3 r3 => ⟨false, r3, ?_⟩
    rw [if_neg Bool.false_ne_true]
    exact h2 _ F3 H3 R3 (s1.trans (s2.trans s3)) rfl
  · exact h2.elim
theorem fe_chain {op op' : CmpOp} {r r' : R2} {o o' : T → T → Option T} (ho : OpR X (compareOp op) r) (hr : OpT X r o) (ho' : OpR X (compareOp op') r') (hr' : OpT X r' o') (ha : FE X E a fa) (hb : FE X E b fb) (hc : FE X E c fc)
    (hm : lastMarks [op, op'] [b, c] = false := by with_unfolding_all rfl) : FE X E (.Compare a [op, op'] [b, c] pos) (chn o o' fa fb fc) := pe_imp (pe_chain ho ho' ha hb hc hm) fun σ H Q h => tChain_of hr hr' h
/-! ### - of ints -/
/-! ### lists of expressions; displays -/
def rdNil : M (List T) := fun ρ => .ok [] ρ
def rdCons (f : M T) (fs : M (List T)) : M (List T) := fun ρ => (f ρ).bind fun x ρ => (fs ρ).bind fun xs ρ => .ok (x :: xs) ρ
theorem fa_nil : FA X E [] rdNil := pa_imp pa_nil fun σ H Q ⟨k, F, ρ, R, h⟩ => h _ F H R (Same.refl _) rfl
theorem fa_cons (ha : FE X E e f) (hr : FA X E es fs) (hs : starEach (e :: es) X.env = (false, eval e X.env) :: starEach es X.env := by rfl) : FA X E (e :: es) (rdCons f fs) := by
  refine pa_imp (pa_cons ha hr hs) fun σ H Q h => ?_
  obtain ⟨k, F, ρ, R, h⟩ := h
  refine ⟨k, F, ρ, R, (Den.bind h).imp fun x ρ1 h1 v F1 H1 R1 s1 r1 => ?_⟩
  refine ⟨k, F1, ρ1, R1, (Den.bind h1).imp fun xs ρ2 h2 vs F2 H2 R2 s2 r2 => ?_⟩
  exact h2 _ F2 H2 R2 (s1.trans s2) (.cons (r1.mono s2) r2)
def calF (o : List T → Option T) (fs : M (List T)) : M T := fun ρ => (fs ρ).bind fun ts ρ => liftO (o ts) ρ
def calO (o : List T → Option O) (fs : M (List T)) : M O := fun ρ => (fs ρ).bind fun ts ρ => liftO (o ts) ρ
def tupO (ts : List T) : Option T := if ts.length ≤ 16777216 then some (.tup ts) else none
def newL (ts : List T) : Option O := if ts.length ≤ 16777216 then some (.l ts) else none
theorem fe_tup {x1} (h : FA X E es fs) : FE X E (.Tuple es x1 pos) (calF tupO fs) := by
  refine pe_imp (pe_tup h) fun σ H Q h => ?_
  obtain ⟨k, F, ρ, R, h⟩ := h
  refine ⟨k, F, ρ, R, (Den.bind h).imp fun ts ρ1 h1 vs F1 H1 R1 s1 r1 => ?_⟩
  obtain ⟨t, e, q⟩ := Den.lift h1
  unfold tupO at e
  split at e
  · rename_i hz
    cases e
    rw [r1.length] at hz
    refine ⟨by rw [szL]; exact hz, fun p np => ?_⟩
    have sF : Same F1 (upd F1 p (.tup vs)) := same_upd (R1.fnone np)
    exact q _ _ _ (R1.newF np) (s1.trans sF) ⟨p, vs, rfl, upd_same, r1.mono sF⟩
  · cases e
theorem fo_lst (h : FA X E es fs) : FO X E (.List es pos) (calO newL fs) := by
  refine pe_imp (pe_lst h) fun σ H Q h => ?_
  obtain ⟨k, F, ρ, R, h⟩ := h
  refine ⟨k, F, ρ, R, (Den.bind h).imp fun ts ρ1 h1 vs F1 H1 R1 s1 r1 => ?_⟩
  obtain ⟨t, e, q⟩ := Den.lift h1
  unfold newL at e
  split at e
  · rename_i hz
    cases e
    rw [r1.length] at hz
    exact ⟨by rw [szL]; exact hz, fun p np => q _ F1 _ (R1.newO (o := .l ts) ⟨vs, rfl, r1⟩ np) s1 R1.len⟩
  · cases e
/-- a new object becomes a tree -/
def frzO (o : O) : T := match o with
  | .l ts => .lst ts
  | .dk ks vs => .dk ks vs
  | .dt ks vs => .dt ks vs
  | .db ks vs => .db ks vs
def frzM (f : M O) : M T := fun ρ => (f ρ).bind fun o ρ => .ok (frzO o) ρ
theorem rep_frz {K : PySem.W.Frag} {mg : Str → Option Value} {F : Hp} {o : O} {h : HO} {p : Addr} (n : F p = none) (r : ORep K mg F o h) : Rep K mg (upd F p h) (frzO o) (.ref p) := by
  have sF : Same F (upd F p h) := same_upd n
  cases o with
  | l ts => obtain ⟨vs, rfl, r⟩ := r; exact ⟨p, vs, rfl, upd_same, r.mono sF⟩
  | dk ks ts => obtain ⟨kvs, rfl, e, r⟩ := r; exact ⟨p, kvs, rfl, upd_same, e, r.mono sF⟩
  | dt ks ts => obtain ⟨kvs, rfl, e, r⟩ := r; exact ⟨p, kvs, rfl, .inl upd_same, e, r.mono sF⟩
  | db ks ts => obtain ⟨a', kvs, rfl, ka, e, r⟩ := r; exact ⟨p, a', kvs, rfl, .inl upd_same, ka.mono fun _ _ q => sF _ _ q, e, r.mono sF⟩
theorem fe_new {fo : M O} (h : FO X E e fo) : FE X E e (frzM fo) := by
  refine pe_imp h fun σ H Q h => ?_
  obtain ⟨k, F, ρ, R, h⟩ := h
  refine ⟨k, F, ρ, R, (Den.bind h).imp fun o ρ1 h1 v F1 H1 R1 s1 l1 => ?_⟩
  obtain ⟨p, ho, rfl, fp, bp, npm, hp, ro, R0⟩ := RS.aside R1 l1
  refine h1 _ _ _ ?_ (s1.trans (same_upd fp)) (rep_frz fp ro)
  have sF : Same F1 (upd F1 p ho) := same_upd fp
  obtain ⟨α, g1, g2⟩ := R0.ex
  refine ⟨R0.len, fun a u e => ?_, (same_upd bp).trans R0.bh, R0.f0.trans sF, fun a u e => ?_, R0.pt, (R0.tb.lessB (same_upd bp)).updF2 hp ro.plain, α, fun j y hy => ?_, g2⟩
  · by_cases ha : a = p
    · subst ha; rw [upd_same] at e; cases e; exact hp
    · rw [upd_ne ha] at e; exact R0.fh _ _ e
  · by_cases ha : a = p
    · subst ha; exact .inr (.inl bp)
    · rw [upd_ne ha] at e
      rcases R0.fr a u e with q | q
      · exact .inl q
      · exact .inr (q.imp (fun q => by rw [upd_ne ha] at q; exact q) id)
  · have q := g1 j y hy
    have far : ∀ a, upd k.B p ho a = none → a ≠ p ∧ k.B a = none := fun a e => by
      have ne : a ≠ p := fun z => by subst z; rw [upd_same] at e; cases e
      rw [upd_ne ne] at e
      exact ⟨ne, e⟩
    cases y with
    | un => trivial
    | fz t => obtain ⟨v', a, b⟩ := q; exact ⟨v', a, b.mono sF⟩
    | raw n => obtain ⟨v', a, b⟩ := q; exact ⟨v', a, b⟩
    | ow o' => obtain ⟨a, b, c, d, u, e1, e2⟩ := q; exact ⟨a, by rw [upd_ne (far _ c).1]; exact b, (far _ c).2, d, u, e1, e2.mono sF⟩
    | pa o' => obtain ⟨a, b, c, d, u, e1, e2⟩ := q; exact ⟨a, by rw [upd_ne (far _ c).1]; exact b, (far _ c).2, d, u, e1, e2.mono sF⟩

/-! ### a[i] -/
def idx (n : Nat) (i : Int) : Option Nat := if 0 ≤ i then (if i < n then some i.toNat else none) else if -(n : Int) ≤ i then some (i + n).toNat else none
theorem idx_eq (n : Nat) (i : Int) : idx n i = ixN n i := rfl
def atT (xs : List T) (i : Int) : Option T := (idx xs.length i).bind fun j => xs[j]?
def ixO (x y : T) : Option T := match x, y with
  | .lst a, .int i => atT a i
  | .sl a, .int i => atT a i
  | .tup a, .int i => atT a i
  | .str z, .int i => if z.length ≤ 16777216 then (L2.atI z.cps.toList i).map fun c => .str ⟨#[c]⟩ else none
  | _, _ => none
theorem atT_rep {K : PySem.W.Frag} {mg : Str → Option Value} {F : Hp} {ts : List T} {vs : List V} {i : Int} {t : T} (r : Reps K mg F ts vs) (e : atT ts i = some t) : ∃ v, atI vs i = some v ∧ Rep K mg F t v := by
  unfold atT at e
  rw [Option.bind_eq_some_iff] at e
  obtain ⟨j, h1, h2⟩ := e
  obtain ⟨v, h3, h4⟩ := r.get h2
  refine ⟨v, ?_, h4⟩
  unfold atI
  rw [← r.length, ← idx_eq, h1]
  exact h3
theorem ot_ix : OpT X (rIx X.K) ixO := fun k F ρ σ H Q x y t v u R rx ry e q => by
  unfold ixO at e
  split at e
  · rename_i ts i
    obtain ⟨p, vs, rfl, h1, r⟩ := rx
    obtain ⟨w, h2, h3⟩ := atT_rep r e
    exact .inl ⟨p, vs, i, w, rfl, ry, SqL.of (R.fh _ _ h1), h2, q _ F H R (Same.refl _) h3⟩
  · rename_i ts i
    obtain ⟨p, vs, rfl, h1, r⟩ := rx
    obtain ⟨w, h2, h3⟩ := atT_rep r e
    exact .inl ⟨p, vs, i, w, rfl, ry, same_SqL R.fh h1, h2, q _ F H R (Same.refl _) h3⟩
  · rename_i ts i
    obtain ⟨p, vs, rfl, h1, r⟩ := rx
    obtain ⟨w, h2, h3⟩ := atT_rep r e
    exact .inr (.inl ⟨p, vs, i, w, rfl, ry, same_SqT R.fh h1, h2, q _ F H R (Same.refl _) h3⟩)
  · rename_i z i
    split at e
    · rename_i hz
      rw [Option.map_eq_some_iff] at e
      obtain ⟨c, h1, rfl⟩ := e
      exact .inr (.inr ⟨z, i, c, rx, ry, by rw [szL]; exact hz, h1, q _ F H R (Same.refl _) rfl⟩)
    · cases e
  · cases e
theorem fe_ix (ha : FE X E a fa) (hb : FE X E b fb) (hs : PlainIx b := by intro _ _; rfl) : FE X E (.Subscript a b pos) (op2 ixO fa fb) := pe_imp (pe_ix ix_seq ha hb hs) fun σ H Q h => tOp_of ot_ix h
/-! ### calls of built-ins -/
def CalT (X : Cx) (r : List V → Hp → VK → Prop) (o : List T → Option T) : Prop := ∀ (k : Bk) (F : Hp) (ρ : Env) (σ : L2.St) (H : Hp) (Q : VK) (ts : List T) (t : T) (vs : List V), RSk X k F ρ σ H → Reps X.K X.mg F ts vs → o ts = some t → Go X k F ρ σ t Q → r vs H Q
theorem tCB_of {r : List V → Hp → VK → Prop} {o : List T → Option T} (hr : CalT X r o) {σ : L2.St} {H : Hp} {Q : VK} (h : tE X E (calF o fs) σ H Q) : tCB r (tA X E fs) σ H Q := by
  obtain ⟨k, F, ρ, R, h⟩ := h
  refine ⟨k, F, ρ, R, (Den.bind h).imp fun ts ρ1 h1 vs F1 H1 R1 s1 r1 => ?_⟩
  obtain ⟨t, e, q⟩ := Den.lift h1
  exact hr k F1 ρ1 σ H1 Q ts t vs R1 r1 e fun v' F' H' R' s' r' => q v' F' H' R' (s1.trans s') r'
theorem fe_callB {x : Str} {id : String} {p : Pos} {r : List V → Hp → VK → Prop} {o : List T → Option T} (hc : CallR X (.builtin id) r) (hr : CalT X r o) (hg : Gl X x) (hm : X.mg x = none) (hv : bootBuiltins x = some (.builtin id)) (ha : FA X E (e :: es) fs) (hn : x ≠ "__name__" := by decide) (hdb : (x == ("__debug__" : Str)) = false := by decide)
    (he : starEach (e :: es) X.env = (false, eval e X.env) :: starEach es X.env := by rfl) (hpl : (backTo pos (starEach es X.env)).any (·.1) = false := by rfl) : FE X E (.Call (.Name x p) (e :: es) [] pos) (calF o fs) :=
  pe_imp (pe_callB hc hg hm hv ha hn hdb he hpl) fun σ H Q h => tCB_of hr h
theorem fe_callTy {x : Str} {id : String} {p : Pos} {r : List V → Hp → VK → Prop} {o : List T → Option T} (hc : CallR X (.type id) r) (hr : CalT X r o) (hg : Gl X x) (hm : X.mg x = none) (hv : bootBuiltins x = some (.type id)) (ha : FA X E (e :: es) fs) (hn : x ≠ "__name__" := by decide) (hdb : (x == ("__debug__" : Str)) = false := by decide)
    (he : starEach (e :: es) X.env = (false, eval e X.env) :: starEach es X.env := by rfl) (hpl : (backTo pos (starEach es X.env)).any (·.1) = false := by rfl) : FE X E (.Call (.Name x p) (e :: es) [] pos) (calF o fs) :=
  pe_imp (pe_callTy hc hg hm hv ha hn hdb he hpl) fun σ H Q h => tCB_of hr h
theorem Reps.one_of {K : PySem.W.Frag} {mg : Str → Option Value} {F : Hp} {t : T} {vs : List V} (r : Reps K mg F [t] vs) : ∃ v, vs = [v] ∧ Rep K mg F t v := by
  obtain ⟨v, w, rfl, h, h2⟩ := r
  have e : w = [] := h2
  subst e
  exact ⟨v, rfl, h⟩
/-- len -/
def lenO (ts : List T) : Option T := match ts with
  | [.lst a] => some (.int a.length)
  | [.sl a] => some (.int a.length)
  | [.tup a] => some (.int a.length)
  | [.str z] => if z.length ≤ 16777216 then some (.int z.length) else none
  | _ => none
def rLenT (X : Cx) : List V → Hp → VK → Prop := fun xs H Q => ∃ x n, xs = [x] ∧ LenV X.K x H n ∧ Q (.int n) H
theorem ct_len : CalT X (rLenT X) lenO := fun k F ρ σ H Q ts t vs R rs e q => by
  unfold lenO at e
  split at e
  · cases e
    obtain ⟨v, rfl, p, ws, rfl, h1, h2⟩ := rs.one_of
    exact ⟨.ref p, ws.length, rfl, .inl ⟨ws, SqL.of (R.fh _ _ h1), rfl⟩, q _ F H R (Same.refl _) (by rw [h2.length]; rfl)⟩
  · cases e
    obtain ⟨v, rfl, p, ws, rfl, h1, h2⟩ := rs.one_of
    exact ⟨.ref p, ws.length, rfl, .inl ⟨ws, same_SqL R.fh h1, rfl⟩, q _ F H R (Same.refl _) (by rw [h2.length]; rfl)⟩
  · cases e
    obtain ⟨v, rfl, p, ws, rfl, h1, h2⟩ := rs.one_of
    exact ⟨.ref p, ws.length, rfl, .inr ⟨ws, same_SqT R.fh h1, rfl⟩, q _ F H R (Same.refl _) (by rw [h2.length]; rfl)⟩
  · rename_i z
    split at e
    · rename_i hz
      cases e
      obtain ⟨v, rfl, h⟩ := rs.one_of
      have ev : v = .str z := h
      subst ev
      exact ⟨.str z, z.length, rfl, ⟨by rw [szL]; exact hz, rfl⟩, q _ F H R (Same.refl _) rfl⟩
    · cases e
  · cases e
def abs1O (ts : List T) : Option T := match ts with
  | [.int i] => some (.int (if i < 0 then -i else i))
  | _ => none
theorem ct_abs : CalT X (fun xs H Q => ∃ i, xs = [.int i] ∧ Q (.int (if i < 0 then -i else i)) H) abs1O := fun k F ρ σ H Q ts t vs R rs e q => by
  unfold abs1O at e
  split at e
  · rename_i i
    cases e
    obtain ⟨v, rfl, h⟩ := rs.one_of
    have ev : v = .int i := h
    subst ev
    exact ⟨i, rfl, q _ F H R (Same.refl _) rfl⟩
  · cases e
def seqT (t : T) : Option (List T) := match t with
  | .lst a => some a
  | .sl a => some a
  | .tup a => some a
  | _ => none
theorem seqT_rep {K : PySem.W.Frag} {mg : Str → Option Value} {F H : Hp} {t : T} {a : List T} {v : V} (s : Same F H) (r : Rep K mg F t v) (e : seqT t = some a) : ∃ p ws, v = .ref p ∧ (SqL K H p ws ∨ SqT K H p ws) ∧ Reps K mg F a ws := by
  cases t <;> simp only [seqT, Option.some.injEq, reduceCtorEq] at e
  · subst e; obtain ⟨p, ws, rfl, h1, h2⟩ := r; exact ⟨p, ws, rfl, .inl (SqL.of (s _ _ h1)), h2⟩
  · subst e; obtain ⟨p, ws, rfl, h1, h2⟩ := r; exact ⟨p, ws, rfl, .inr (same_SqT s h1), h2⟩
  · subst e; obtain ⟨p, ws, rfl, h1, h2⟩ := r; exact ⟨p, ws, rfl, .inl (same_SqL s h1), h2⟩
/-- all, any of a list of truth values -/
def blsT : List T → Option (List Bool)
  | [] => some []
  | .bl b :: ts => (blsT ts).map (b :: ·)
  | _ :: _ => none
theorem blsT_rep {K : PySem.W.Frag} {mg : Str → Option Value} {F : Hp} : ∀ {ts : List T} {bs : List Bool} {vs : List V}, Reps K mg F ts vs → blsT ts = some bs → vs = bs.map V.bl
  | [], bs, vs, r, e => by
    have ev : vs = [] := r
    simp only [blsT, Option.some.injEq] at e
    subst ev e; rfl
  | t :: ts, bs, vs, r, e => by
    obtain ⟨v, w, rfl, h1, h2⟩ := r
    cases t <;> simp only [blsT, reduceCtorEq] at e
    rw [Option.map_eq_some_iff] at e
    obtain ⟨bs', e, rfl⟩ := e
    have ev : v = .bl _ := h1
    subst ev
    rw [blsT_rep h2 e]; rfl
def all1O (ts : List T) : Option T := match ts with
  | [.lst a] => (blsT a).map fun bs => .bl (bs.all id)
  | _ => none
theorem ct_all : CalT X (rAll X.K) all1O := fun k F ρ σ H Q ts t vs R rs e q => by
  unfold all1O at e
  split at e
  · rw [Option.map_eq_some_iff] at e
    obtain ⟨bs, e, rfl⟩ := e
    obtain ⟨v, rfl, p, ws, rfl, h1, h2⟩ := rs.one_of
    have ew := blsT_rep h2 e
    subst ew
    exact ⟨p, bs, rfl, SqL.of (R.fh _ _ h1), q _ F H R (Same.refl _) rfl⟩
  · cases e
/-- sum, max, min of a list of ints -/
def intsT : List T → Option (List Int)
  | [] => some []
  | .int b :: ts => (intsT ts).map (b :: ·)
  | _ :: _ => none
theorem intsT_map (ns : List Int) : intsT (ns.map T.int) = some ns := by
  induction ns with
  | nil => rfl
  | cons n ns ih => simp [intsT, ih]
end
end FL

/-! FL5: statements, loops, comprehensions, calls of defs. -/
namespace FL
open PySem PySem.Spec L2

/-! ### a tree or a new object -/
inductive VO where
  | tr (t : T) | ob (o : O)
def VO.sv : VO → SV
  | .tr t => .fz t
  | .ob o => .ow o
def tX (X : Cx) (E : XK) (f : M VO) : TE := fun σ H Q => ∃ k F ρ, RSk X k F ρ σ H ∧ Den (f ρ) (fun x ρ' => ∀ v F' H', RSk X k F' (ρ' ++ [x.sv]) (σ ++ [some v]) H' → Same F F' → ρ'.length = σ.length → Q v H') (XOk X.K X.mg k E)
def tXs (X : Cx) (E : XK) (f : M (List VO)) : TA := fun σ H Q => ∃ k F ρ, RSk X k F ρ σ H ∧ Den (f ρ) (fun xs ρ' => ∀ vs F' H', RSk X k F' (ρ' ++ xs.map VO.sv) (σ ++ vs.map some) H' → Same F F' → ρ'.length = σ.length → vs.length = xs.length → Q vs H') (XOk X.K X.mg k E)
abbrev FX (X : Cx) (E : XK) (e : Expr) (f : M VO) : Prop := PE X e (tX X E f)
abbrev FXs (X : Cx) (E : XK) (es : List Expr) (f : M (List VO)) : Prop := PA X es (tXs X E f)
def asT (f : M T) : M VO := fun ρ => (f ρ).bind fun t ρ => .ok (.tr t) ρ
def asO (f : M O) : M VO := fun ρ => (f ρ).bind fun o ρ => .ok (.ob o) ρ
section
variable {X : Cx} {E : XK} {e : Expr} {es : List Expr} {pos : Pos} {f : M T} {fo : M O} {fx : M VO} {fs : M (List VO)}
theorem fx_t (h : FE X E e f) : FX X E e (asT f) := by
  refine pe_imp h fun σ H Q h => ?_
  obtain ⟨k, F, ρ, R, h⟩ := h
  refine ⟨k, F, ρ, R, (Den.bind h).imp fun t ρ1 h1 v F1 H1 R1 s1 r1 => h1 v F1 H1 ?_ s1 R1.len⟩
  have R2 : RSk X k F1 (ρ1 ++ []) (σ ++ []) H1 := by rw [List.append_nil, List.append_nil]; exact R1
  exact R2.insF R1.len r1
theorem fx_o (h : FO X E e fo) : FX X E e (asO fo) := by
  refine pe_imp h fun σ H Q h => ?_
  obtain ⟨k, F, ρ, R, h⟩ := h
  exact ⟨k, F, ρ, R, (Den.bind h).imp fun o ρ1 h1 v F1 H1 R1 s1 l1 => h1 v F1 H1 R1 s1 l1⟩
def xsNil : M (List VO) := fun ρ => .ok [] ρ
def xsCons (f : M VO) (fs : M (List VO)) : M (List VO) := fun ρ => (f ρ).bind fun x ρ => (fs ρ).bind fun xs ρ => .ok (x :: xs) ρ
theorem fxs_nil : FXs X E [] xsNil := pa_imp pa_nil fun σ H Q ⟨k, F, ρ, R, h⟩ => h [] F H (by simpa using R) (Same.refl _) R.len rfl
theorem fxs_cons (ha : FX X E e fx) (hr : FXs X E es fs) (hs : starEach (e :: es) X.env = (false, eval e X.env) :: starEach es X.env := by rfl) : FXs X E (e :: es) (xsCons fx fs) := by
  refine pa_imp (pa_cons ha hr hs) fun σ H Q h => ?_
  obtain ⟨k, F, ρ, R, h⟩ := h
  refine ⟨k, F, ρ, R, (Den.bind h).imp fun x ρ1 h1 v F1 H1 R1 s1 l1 => ?_⟩
  cases x with
  | tr t =>
    have R1' : RSk X k F1 (ρ1 ++ [SV.fz t]) (σ ++ [some v]) H1 := R1
    -- the tree at the end, and the state without it
    obtain ⟨α, g1, g2⟩ := R1'.ex
    have e0 : (ρ1 ++ [SV.fz t])[ρ1.length]? = some (.fz t) := by simp
    obtain ⟨v', ev, rv⟩ := g1 ρ1.length _ e0
    have ev' : v' = v := by
      rw [l1] at ev
      simpa using ev.symm
    subst ev'
    have up : ∀ j y, ρ1[j]? = some y → (ρ1 ++ [SV.fz t])[j]? = some y ∧ j < ρ1.length := fun j y hy => by
      have hj := (List.getElem?_eq_some_iff.mp hy).1
      exact ⟨by rw [List.getElem?_append_left hj]; exact hy, hj⟩
    have R0 : RSk X k F1 ρ1 σ H1 := by
      refine ⟨l1, R1.fh, R1.bh, R1.f0, R1.fr, R1.pt, R1.tb, α, fun j y hy => ?_, fun j m y z hy hz => g2 j m y z (up j y hy).1 (up m z hz).1⟩
      have q := g1 j y (up j y hy).1
      have es : (σ ++ [some v'])[j]? = σ[j]? := List.getElem?_append_left (by have := (up j y hy).2; omega)
      cases y with
      | un => trivial
      | fz t => obtain ⟨w, a, b⟩ := q; exact ⟨w, es ▸ a, b⟩
      | raw n => obtain ⟨w, a, b⟩ := q; exact ⟨w, es ▸ a, b⟩
      | ow o => obtain ⟨a, b⟩ := q; exact ⟨es ▸ a, b⟩
      | pa o => obtain ⟨a, b⟩ := q; exact ⟨es ▸ a, b⟩
    refine ⟨k, F1, ρ1, R0, (Den.bind h1).imp fun xs ρ2 h2 vs F2 H2 R2 s2 l2 lx => ?_⟩
    exact h2 (v' :: vs) F2 H2 (R2.insF l2 (rv.mono s2)) (s1.trans s2) l2 (by simp [lx])
  | ob o =>
    obtain ⟨p, ho, rfl, fp, bp, npm, hp, ro, R0⟩ := RS.aside R1 l1
    have f0 : k.F0 p = none := R1.f0.free fp
    refine ⟨⟨upd k.B p ho, k.F0, k.pm, k.rw⟩, F1, ρ1, R0, ?_⟩
    have go : Den (fs ρ1) (fun xs ρ2 => ∀ vs F2 H2, RS X.K X.mg (upd k.B p ho) k.F0 k.pm k.rw F2 (ρ2 ++ xs.map VO.sv) (σ ++ vs.map some) H2 → Same F1 F2 → ρ2.length = σ.length → vs.length = xs.length → Q (.ref p :: vs) H2) (XOk X.K X.mg ⟨upd k.B p ho, k.F0, k.pm, k.rw⟩ E) := by
      have h2 := Den.bind h1
      cases e : fs ρ1 with
      | bad => rw [e] at h2; exact h2
      | exc x =>
        rw [e] at h2
        have h3 : XOk X.K X.mg k E x := h2
        have sB : Same k.B (upd k.B p ho) := same_upd bp
        obtain ⟨c, a⟩ := x
        cases a with
        | none => exact fun C H' m s => h3 C H' m ⟨sB.trans s.1, s.2⟩
        | some a => exact fun C d v F' H' m s s' => h3 C d v F' H' m ⟨sB.trans s.1, s.2⟩ s'
      | ok xs ρ2 =>
        rw [e] at h2
        intro vs F2 H2 R2 s2 l2 lx
        exact h2 (.ref p :: vs) F2 H2 (RS.back R2 l2 f0 bp npm (ro.mono s2)) (s1.trans s2) l2 (by simp [lx])
    exact go
end

/-! ### statements -/
inductive Fl where
  | nx | rt (t : T) | bk | ct
abbrev MS := M Fl
def Post (X : Cx) (k : Bk) (F : Hp) (D : Ends) (fl : Fl) (ρ' : Env) : Prop := match fl with
  | .nx => ∀ σ' F' H', RSk X k F' ρ' σ' H' → Same F F' → D.nx σ' H'
  | .bk => ∀ σ' F' H', RSk X k F' ρ' σ' H' → Same F F' → D.bk σ' H'
  | .ct => ∀ σ' F' H', RSk X k F' ρ' σ' H' → Same F F' → D.ct σ' H'
  | .rt t => ∀ v σ' F' H', RSk X k F' ρ' σ' H' → Same F F' → Rep X.K X.mg F' t v → D.rt v H'
theorem Post.mono {X : Cx} {k : Bk} {F F1 : Hp} {D : Ends} {fl : Fl} {ρ : Env} (s : Same F F1) (h : Post X k F D fl ρ) : Post X k F1 D fl ρ := by
  cases fl with
  | nx => exact fun σ' F' H' R s' => h σ' F' H' R (s.trans s')
  | bk => exact fun σ' F' H' R s' => h σ' F' H' R (s.trans s')
  | ct => exact fun σ' F' H' R s' => h σ' F' H' R (s.trans s')
  | rt t => exact fun v σ' F' H' R s' => h v σ' F' H' R (s.trans s')
def tS (X : Cx) (E : XK) (f : MS) : TS := fun D σ H => ∃ k F ρ, RSk X k F ρ σ H ∧ Den (f ρ) (Post X k F D) (XOk X.K X.mg k E)
abbrev FS (X : Cx) (E : XK) (st : Stmt) (f : MS) : Prop := PS X st (tS X E f)
abbrev FSs (X : Cx) (E : XK) (st : List Stmt) (f : MS) : Prop := PSs X st (tS X E f)
theorem pss_imp {X : Cx} {e : List Stmt} {t t' : TS} (h : PSs X e t) (i : ∀ D σ H, t' D σ H → t D σ H) : PSs X e t' := ⟨fun pins s σ H D I q => h.run pins s σ H D I (i _ _ _ q)⟩
def skip : MS := fun ρ => .ok .nx ρ
def sq (f g : MS) : MS := fun ρ => (f ρ).bind fun fl ρ => match fl with
  | .nx => g ρ
  | .rt t => .ok (.rt t) ρ
  | .bk => .ok .bk ρ
  | .ct => .ok .ct ρ
section
variable {X : Cx} {E : XK} {e : Expr} {es : List Expr} {pos : Pos} {f : M T} {fo : M O} {fx : M VO} {fs : M (List VO)} {st : Stmt} {sts a b : List Stmt} {s1 s2 s3 : MS} {g : M Bool} {c : Expr}
theorem fs_nil : FSs X E [] skip := pss_imp pss_nil fun D σ H ⟨k, F, ρ, R, h⟩ => h σ F H R (Same.refl _)
theorem fs_cons (h1 : FS X E st s1) (h2 : FSs X E sts s2) : FSs X E (st :: sts) (sq s1 s2) := by
  refine pss_imp (pss_cons h1 h2) fun D σ H h => ?_
  obtain ⟨k, F, ρ, R, h⟩ := h
  refine ⟨k, F, ρ, R, (Den.bind h).imp fun fl ρ1 h1 => ?_⟩
  cases fl with
  | nx => exact fun σ' F' H' R' s' => ⟨k, F', ρ1, R', (show Den (s2 ρ1) (Post X k F D) (XOk X.K X.mg k E) from h1).imp fun fl ρ2 q => q.mono s'⟩
  | bk => exact h1
  | ct => exact h1
  | rt t => exact h1
theorem fs_one (h1 : FS X E st s1) : FSs X E [st] s1 := pss_one h1
def bad : MS := fun _ => .bad
theorem fss_never : FSs X E sts bad := pss_imp pss_never fun D σ H ⟨k, F, ρ, R, h⟩ => h
def sRet (f : M T) : MS := fun ρ => (f ρ).bind fun t ρ => .ok (.rt t) ρ
theorem fs_ret (h : FE X E e f) : FS X E (.Return (some e) pos) (sRet f) := by
  refine ps_imp (ps_ret h) fun D σ H h => ?_
  obtain ⟨k, F, ρ, R, h⟩ := h
  exact ⟨k, F, ρ, R, (Den.bind h).imp fun t ρ1 h1 v F1 H1 R1 s1 r1 => h1 v σ F1 H1 R1 s1 r1⟩
def sIf (g : M Bool) (s1 s2 : MS) : MS := fun ρ => (g ρ).bind fun b ρ => if b = true then s1 ρ else s2 ρ
theorem fs_if (hc : FT X E c g) (ha : FSs X E a s1) (hb : FSs X E b s2) : FS X E (.If c a b pos) (sIf g s1 s2) := by
  refine ps_imp (ps_if hc ha hb) fun D σ H h => ?_
  obtain ⟨k, F, ρ, R, h⟩ := h
  refine ⟨k, F, ρ, R, (Den.bind h).imp fun t ρ1 h1 F1 H1 R1 s1 => ?_⟩
  split at h1
  · rename_i e
    rw [if_pos e]
    exact ⟨k, F1, ρ1, R1, h1.imp fun _ _ q => q.mono s1⟩
  · rename_i e
    rw [if_neg e]
    exact ⟨k, F1, ρ1, R1, h1.imp fun _ _ q => q.mono s1⟩
/-- an expression for its effect -/
def sExpr (f : M T) : MS := fun ρ => (f ρ).bind fun _ ρ => .ok .nx ρ
theorem fs_expr (h : FE X E e f) (hs : swapsWith e none pos.line X.env = pure false := by rfl) : FS X E (.Expr e pos) (sExpr f) := by
  refine ps_imp (ps_expr h hs) fun D σ H h => ?_
  obtain ⟨k, F, ρ, R, h⟩ := h
  exact ⟨k, F, ρ, R, (Den.bind h).imp fun t ρ1 h1 v F1 H1 R1 s1 r1 => h1 σ F1 H1 R1 s1⟩
/-- name = e -/
def put (i : Nat) (x : SV) (ρ : Env) : Res Fl := if i < ρ.length then .ok .nx (ρ.set i x) else .bad
def sSet (i : Nat) (f : M VO) : MS := fun ρ => (f ρ).bind fun x ρ => put i x.sv ρ
theorem fs_set {i : Nat} {x : Str} {pos' : Pos} (hN : X.N.Nodup) (hi : X.N[i]? = some x) (hx : Loc X.env.scope x) (he : FX X E e fx) (hs : swapsWith e (some (.Name x pos')) pos.line X.env = pure false := by rfl) (hf : X.fn x = true ∨ X.env.scope.names.lookup x = some .local := by first | exact .inl rfl | exact .inr rfl | assumption) :
    FS X E (.Assign [.Name x pos'] e pos) (sSet i fx) := by
  refine ps_imp (ps_set hN hi hx he hs hf) fun D σ H h => ?_
  obtain ⟨k, F, ρ, R, h⟩ := h
  refine ⟨k, F, ρ, R, (Den.bind h).imp fun x ρ1 h1 v F1 H1 R1 s1 l1 => ?_⟩
  unfold put at h1
  split at h1
  · rename_i hlt
    have R2 := RS.pop (ys := []) (ws := []) R1 l1 i hlt
    rw [List.append_nil, List.append_nil] at R2
    exact h1 _ F1 H1 R2 s1
  · exact h1.elim
/-- a, b = x, y -/
def put2 (i j : Nat) (xs : List VO) (ρ : Env) : Res Fl := match xs with
  | [x, y] => if i < ρ.length ∧ j < ρ.length then .ok .nx ((ρ.set i x.sv).set j y.sv) else .bad
  | _ => .bad
def sPar (i j : Nat) (fs : M (List VO)) : MS := fun ρ => (fs ρ).bind (put2 i j)
theorem two_slots {k : Bk} {F : Hp} {ρ : Env} {σ : L2.St} {H : Hp} {i j : Nat} {x y : SV} {v w : V} (R : RSk X k F (ρ ++ [x, y]) (σ ++ [some v, some w]) H) (l : ρ.length = σ.length) (hi : i < ρ.length) (hj : j < ρ.length) :
    RSk X k F ((ρ.set i x).set j y) ((σ.set i (some v)).set j (some w)) H := by
  have R1 := RS.pop (ys := [y]) (ws := [some w]) R l i hi
  have R2 := RS.pop (ys := []) (ws := []) R1 (by simpa using l) j (by simpa using hj)
  rw [List.append_nil, List.append_nil] at R2
  exact R2
theorem fs_par {i j : Nat} {x y : Str} {e1 e2 : Expr} {px py pt : Pos} {kt k2 pt2} (hc : X.calm = true) (hN : X.N.Nodup) (hi : X.N[i]? = some x) (hj : X.N[j]? = some y) (hij : i ≠ j)
    (hx : X.env.scope.names.lookup x = some .local) (hy : X.env.scope.names.lookup y = some .local) (ha : FXs X E [e1, e2] fs)
    (hw : swappedStores [.Tuple [.Name x px, .Name y py] kt pt] (.Tuple [e1, e2] k2 pt2) X.env = pure (some [x, y]))
    (hs : swapsWithSole [.Tuple [.Name x px, .Name y py] kt pt] (.Tuple [e1, e2] k2 pt2) pos.line X.env = pure false := by rfl) :
    FS X E (.Assign [.Tuple [.Name x px, .Name y py] kt pt] (.Tuple [e1, e2] k2 pt2) pos) (sPar i j fs) := by
  refine ps_imp (ps_par hc hN hi hj hij hx hy ha hw hs) fun D σ H h => ?_
  obtain ⟨k, F, ρ, R, h⟩ := h
  refine ⟨k, F, ρ, R, (Den.bind h).imp fun xs ρ1 h1 vs F1 H1 R1 s1 l1 lx => ?_⟩
  unfold put2 at h1
  split at h1
  · rename_i x y
    split at h1
    · rename_i hlt
      match vs, lx with
      | [v, w], _ => exact ⟨v, w, rfl, h1 _ F1 H1 (two_slots R1 l1 hlt.1 hlt.2) s1⟩
    · exact h1.elim
  · exact h1.elim
/-! ### targets -/
/-- what a tree given to a target makes of the state; is: the slots that it changes -/
abbrev MG := T → Env → Option Env
def tG (X : Cx) (is : List Nat) (g : MG) : TG := fun v σ H Q => ∃ k F ρ t, RSk X k F ρ σ H ∧ Rep X.K X.mg F t v ∧ ∃ ρ', g t ρ = some ρ' ∧ ∀ σ' F' H', RSk X k F' ρ' σ' H' → Same F F' → σ'.length = σ.length → (∀ j, j ∉ is → σ'[j]? = σ[j]?) → Q σ' H'
abbrev FG (X : Cx) (is : List Nat) (e : Expr) (g : MG) : Prop := PG X e (tG X is g)
theorem pg_imp {X : Cx} {e : Expr} {t t' : TG} (h : PG X e t) (i : ∀ v σ H Q, t' v σ H Q → t v σ H Q) : PG X e t' := ⟨fun pins s σ H v u Q I r q => h.run pins s σ H v u Q I r (i _ _ _ _ q)⟩
def gN (i : Nat) : MG := fun t ρ => if i < ρ.length then some (ρ.set i (.fz t)) else none
theorem fg_name {i : Nat} {x : Str} (hN : X.N.Nodup) (hi : X.N[i]? = some x) (hx : Loc X.env.scope x) (hf : X.fn x = true ∨ X.env.scope.names.lookup x = some .local := by first | exact .inl rfl | exact .inr rfl | assumption) : FG X [i] (.Name x pos) (gN i) := by
  refine pg_imp (pg_name hN hi hx hf) fun v σ H Q h => ?_
  obtain ⟨k, F, ρ, t, R, r, ρ', e, q⟩ := h
  unfold gN at e
  split at e
  · rename_i hlt
    cases e
    refine q _ F H (R.setF i r) (Same.refl _) (by simp) fun j hj => ?_
    rw [List.getElem?_set_ne (by simpa [eq_comm] using hj)]
  · cases e
/-- several targets by their trees -/
abbrev MGs := List T → Env → Option Env
def tGs (X : Cx) (is : List Nat) (g : MGs) : TGs := fun vs σ H Q => ∃ k F ρ ts, RSk X k F ρ σ H ∧ Reps X.K X.mg F ts vs ∧ ∃ ρ', g ts ρ = some ρ' ∧ ∀ σ' F' H', RSk X k F' ρ' σ' H' → Same F F' → σ'.length = σ.length → (∀ j, j ∉ is → σ'[j]? = σ[j]?) → Q σ' H'
abbrev FGs (X : Cx) (is : List Nat) (e : List Expr) (g : MGs) : Prop := PGs X e (tGs X is g)
theorem pgs_imp {X : Cx} {e : List Expr} {t t' : TGs} (h : PGs X e t) (i : ∀ v σ H Q, t' v σ H Q → t v σ H Q) : PGs X e t' := ⟨fun pins s σ H v u Q I r q => h.run pins s σ H v u Q I r (i _ _ _ _ q)⟩
def gsNil : MGs := fun ts ρ => match ts with
  | [] => some ρ
  | _ => none
def gsCons (g : MG) (gs : MGs) : MGs := fun ts ρ => match ts with
  | t :: ts => (g t ρ).bind fun ρ => gs ts ρ
  | [] => none
theorem fgs_nil : FGs X [] [] gsNil := pgs_imp pgs_nil fun vs σ H Q h => by
  obtain ⟨k, F, ρ, ts, R, r, ρ', e, q⟩ := h
  unfold gsNil at e
  split at e
  · cases e
    exact ⟨r, q σ F H R (Same.refl _) rfl fun _ _ => rfl⟩
  · cases e
theorem fgs_cons {is js : List Nat} {g : MG} {gs : MGs} (h1 : FG X is e g) (h2 : FGs X js es gs) (hs : (assignEach (e :: es) X.env).map (·.2) = assign e X.env :: (assignEach es X.env).map (·.2) := by rfl) : FGs X (is ++ js) (e :: es) (gsCons g gs) :=
  pgs_imp (pgs_cons h1 h2 hs) fun vs σ H Q h => by
  obtain ⟨k, F, ρ, ts, R, r, ρ', e, q⟩ := h
  unfold gsCons at e
  split at e
  · rename_i t ts
    rw [Option.bind_eq_some_iff] at e
    obtain ⟨ρ1, e1, e2⟩ := e
    obtain ⟨v, w, rfl, r1, r2⟩ := r
    refine ⟨v, w, rfl, k, F, ρ, t, R, r1, ρ1, e1, fun σ1 F1 H1 R1 s1 l1 d1 => ⟨k, F1, ρ1, ts, R1, r2.mono s1, ρ', e2, fun σ2 F2 H2 R2 s2 l2 d2 => ?_⟩⟩
    refine q σ2 F2 H2 R2 (s1.trans s2) (l2.trans l1) fun j hj => ?_
    rw [List.mem_append, not_or] at hj
    rw [d2 j hj.2, d1 j hj.1]
  · cases e
def gT (gs : MGs) : MG := fun t ρ => match t with
  | .tup ts => gs ts ρ
  | _ => none
theorem fg_tup {is : List Nat} {gs : MGs} {kk : Nat} {n : Nat} (hc : X.calm = true) (h : FGs X is es gs) (hn : (assignEach es X.env).length = n := by rfl) (hst : (assignEach es X.env).findIdx? (·.1) = none := by rfl)
    (hl : ∀ ts ρ ρ', gs ts ρ = some ρ' → ts.length = n) : FG X is (.Tuple es kk pos) (gT gs) := by
  refine pg_imp (pg_tup hc h hn hst) fun v σ H Q h => ?_
  obtain ⟨k, F, ρ, t, R, r, ρ', e, q⟩ := h
  unfold gT at e
  split at e
  · rename_i ts
    obtain ⟨p, vs, rfl, h1, h2⟩ := r
    exact ⟨p, vs, rfl, same_SqT R.fh h1, by rw [← h2.length]; exact hl _ _ _ e, k, F, ρ, ts, R, h2, ρ', e, q⟩
  · cases e
theorem gs_len0 : ∀ ts ρ ρ', gsNil ts ρ = some ρ' → ts.length = 0 := fun ts ρ ρ' h => by
  unfold gsNil at h
  split at h
  · rfl
  · cases h
theorem gs_len {g : MG} {gs : MGs} {n : Nat} (hl : ∀ ts ρ ρ', gs ts ρ = some ρ' → ts.length = n) : ∀ ts ρ ρ', gsCons g gs ts ρ = some ρ' → ts.length = n + 1 := fun ts ρ ρ' h => by
  unfold gsCons at h
  split at h
  · rw [Option.bind_eq_some_iff] at h
    obtain ⟨ρ1, _, h⟩ := h
    simp [hl _ _ _ h]
  · cases h
/-- target = e, a target of any form, e's tree -/
def sAsg (g : MG) (f : M T) : MS := fun ρ => (f ρ).bind fun t ρ => match g t ρ with
  | some ρ => .ok .nx ρ
  | none => .bad
theorem fs_asg {tg : Expr} {is : List Nat} {g : MG} (he : FE X E e f) (hg : FG X is tg g) (hs : swapsWithSole [tg] e pos.line X.env = pure false := by rfl) (hw : swappedStores [tg] e X.env = pure none := by rfl)
    (h1 : (assignEach [tg] X.env).map (·.2) = [assign tg X.env] := by rfl) : FS X E (.Assign [tg] e pos) (sAsg g f) := by
  refine ps_imp (ps_asg he hg hs hw h1) fun D σ H h => ?_
  obtain ⟨k, F, ρ, R, h⟩ := h
  refine ⟨k, F, ρ, R, (Den.bind h).imp fun t ρ1 h1 v F1 H1 R1 s1 r1 => ?_⟩
  split at h1
  · rename_i ρ2 e
    exact ⟨k, F1, ρ1, t, R1, r1, ρ2, e, fun σ' F' H' R' s' _ _ => h1 σ' F' H' R' (s1.trans s')⟩
  · exact h1.elim
/-! ### what is walked -/
/-- at each turn: the tree, as it lies or in a new tuple -/
def Yt (X : Cx) (F : Hp) (ts : List T) : Nat → Hp → V → Hp → Prop := fun i H v H' => ∃ t, ts[i]? = some t ∧ ((H' = H ∧ Rep X.K X.mg F t v) ∨ ∃ p us vs, t = .tup us ∧ v = .ref p ∧ H p = none ∧ H' = upd H p (.tup vs) ∧ Reps X.K X.mg F us vs)
def Wk (X : Cx) (F : Hp) (J : It) (ts : List T) : Prop := L2.Walk J ts.length (fun H => Same F H) (Yt X F ts)
def tI (X : Cx) (E : XK) (f : M (List T)) : TI := fun σ H R => ∃ k F ρ, RSk X k F ρ σ H ∧ Den (f ρ) (fun ts ρ' => ∀ J F' H', RSk X k F' ρ' σ H' → Same F F' → Wk X F' J ts → R J H') (XOk X.K X.mg k E)
abbrev FI (X : Cx) (E : XK) (tg e : Expr) (f : M (List T)) : Prop := PI X tg e (tI X E f)
theorem pi_imp {X : Cx} {tg e : Expr} {t t' : TI} (h : PI X tg e t) (i : ∀ σ H R, t' σ H R → t σ H R) : PI X tg e t' := ⟨fun pins s σ H R I q => h.run pins s σ H R I (i _ _ _ q)⟩
theorem Yt.grow {F F1 : Hp} {ts : List T} (s : Same F F1) {i : Nat} {H : Hp} {v : V} {H' : Hp} (h : Yt X F ts i H v H') : Yt X F1 ts i H v H' := by
  obtain ⟨t, e, h⟩ := h
  refine ⟨t, e, ?_⟩
  rcases h with ⟨h1, h2⟩ | ⟨p, us, vs, h1, h2, h3, h4, h5⟩
  · exact .inl ⟨h1, h2.mono s⟩
  · exact .inr ⟨p, us, vs, h1, h2, h3, h4, h5.mono s⟩
/-- what is given at a turn, in the state -/
theorem Yt.take {k : Bk} {F : Hp} {ρ : Env} {σ : L2.St} {H H' : Hp} {ts : List T} {i : Nat} {v : V} (R : RSk X k F ρ σ H) (h : Yt X F ts i H v H') : ∃ t F', ts[i]? = some t ∧ RSk X k F' ρ σ H' ∧ Same F F' ∧ Rep X.K X.mg F' t v := by
  obtain ⟨t, e, h⟩ := h
  rcases h with ⟨rfl, h2⟩ | ⟨p, us, vs, rfl, rfl, h3, rfl, h5⟩
  · exact ⟨t, F, e, R, Same.refl _, h2⟩
  · have sF : Same F (upd F p (.tup vs)) := same_upd (R.fnone h3)
    exact ⟨.tup us, upd F p (.tup vs), e, R.newF h3, sF, p, vs, rfl, upd_same, h5.mono sF⟩
theorem yat {F : Hp} {ts : List T} {vs : List V} (r : Reps X.K X.mg F ts vs) {i : Nat} {H : Hp} {v : V} {H' : Hp} (h : YAt vs i H v H') : Yt X F ts i H v H' := by
  obtain ⟨rfl, h⟩ := h
  have hi : i < ts.length := by
    rw [r.length]
    exact (List.getElem?_eq_some_iff.mp h).1
  obtain ⟨w, h1, h2⟩ := r.get (List.getElem?_eq_getElem hi)
  rw [h] at h1
  cases h1
  exact ⟨_, List.getElem?_eq_getElem hi, .inl ⟨rfl, h2⟩⟩
/-- range -/
def rgT (lo : Int) (n : Nat) : List T := (List.range n).map fun i => .int (lo + (i : Nat))
def rg1 (ts : List T) : Option (List T) := match ts with
  | [.int j] => if decide (-4611686018427387904 ≤ j) && decide (j < 4611686018427387904) then some (rgT 0 j.toNat) else none
  | _ => none
def calI (o : List T → Option (List T)) (fs : M (List T)) : M (List T) := fun ρ => (fs ρ).bind fun ts ρ => liftO (o ts) ρ
theorem wk_range {F : Hp} {lo : Int} {n : Nat} : Wk X F (Itr lo n) (rgT lo n) := by
  have w := walk_range (lo := lo) (n := n)
  have e : (rgT lo n).length = n := by simp [rgT]
  unfold Wk
  rw [e]
  refine w.mono (fun _ _ => trivial) fun i H v H' hi _ y => ?_
  obtain ⟨rfl, rfl⟩ := y
  exact ⟨.int (lo + (i : Nat)), by simp [rgT, hi], .inl ⟨rfl, rfl⟩⟩
theorem fi_range1 {tg a : Expr} {fs : M (List T)} {p : Pos} (hg : Gl X "range") (hm : X.mg "range" = none) (ha : FA X E [a] fs) (hs : starEach [a] X.env = [(false, eval a X.env)] := by rfl) : FI X E tg (.Call (.Name "range" p) [a] [] pos) (calI rg1 fs) := by
  refine pi_imp (pi_range1 hg hm ha hs) fun σ H Q h => ?_
  obtain ⟨k, F, ρ, R, h⟩ := h
  refine ⟨k, F, ρ, R, (Den.bind h).imp fun ts ρ1 h1 vs F1 H1 R1 s1 r1 => ?_⟩
  obtain ⟨us, e, q⟩ := Den.lift h1
  unfold rg1 at e
  split at e
  · rename_i j
    split at e
    · rename_i hb
      cases e
      rw [Bool.and_eq_true] at hb
      have b1 := of_decide_eq_true hb.1
      have b2 := of_decide_eq_true hb.2
      obtain ⟨v, rfl, h2⟩ := r1.one_of
      have ev : v = .int j := h2
      subst ev
      exact ⟨j, rfl, by omega, by omega, q _ F1 H1 R1 s1 wk_range⟩
    · cases e
  · cases e
/-! ### for -/
def forL (g : MG) (body : MS) : List T → MS
  | [], ρ => .ok .nx ρ
  | t :: ts, ρ => match g t ρ with
    | none => .bad
    | some ρ => (body ρ).bind fun fl ρ => match fl with
      | .nx => forL g body ts ρ
      | .ct => forL g body ts ρ
      | .bk => .ok .nx ρ
      | .rt t => .ok (.rt t) ρ
def sFor (src : M (List T)) (g : MG) (body : MS) : MS := fun ρ => (src ρ).bind fun ts ρ => forL g body ts ρ
theorem fs_for {tg iter : Expr} {body : List Stmt} {src : M (List T)} {g : MG} {is : List Nat} {sb : MS} (hp : PassesOwn (model X.prog X.w) X.A X.env X.xe) (hc : X.calm = true) (hi : FI X E tg iter src) (hg : FG X is tg g) (hb : FSs X E body sb)
    (hs : ∀ x, foldedSetIterable iter X.env x = pure x := by intro _; rfl) : FS X E (.For tg iter body [] pos) (sFor src g sb) := by
  refine ps_imp (ps_for hp hc hi hg hb hs) fun D σ H h => ?_
  obtain ⟨k, F, ρ, R, h⟩ := h
  refine ⟨k, F, ρ, R, (Den.bind h).imp fun ts ρ1 h1 J F1 H1 R1 s1 w1 => ?_⟩
  refine for_it w1 (fun i σ' H' => ∃ F' ρ', RSk X k F' ρ' σ' H' ∧ Same F1 F' ∧ Den (forL g sb (ts.drop i) ρ') (Post X k F D) (XOk X.K X.mg k E)) ⟨F1, ρ1, R1, Same.refl _, h1⟩ (fun i σ' H' _ q => ?_) (fun i x σ' H' H'' hlt q y => ?_) (fun σ' H' q => ?_)
  · obtain ⟨F', ρ', R', s', _⟩ := q
    exact s'.trans R'.fh
  · obtain ⟨F', ρ', R', s', d⟩ := q
    obtain ⟨t, F2, et, R2, s2, r2⟩ := (y.grow s').take R'
    have ed : ts.drop i = t :: ts.drop (i + 1) := by
      rw [List.drop_eq_getElem_cons hlt]
      rw [List.getElem?_eq_getElem hlt] at et
      rw [Option.some.inj et]
    rw [ed] at d
    unfold forL at d
    split at d
    · exact d.elim
    · rename_i ρ2 e2
      refine ⟨k, F2, ρ', t, R2, r2, ρ2, e2, fun σ3 F3 H3 R3 s3 _ _ => ⟨k, F3, ρ2, R3, (Den.bind d).imp fun fl ρ4 q4 => ?_⟩⟩
      have sAll : Same F F3 := s1.trans (s'.trans (s2.trans s3))
      cases fl with
      | nx => exact fun σ5 F5 H5 R5 s5 => ⟨F5, ρ4, R5, s'.trans (s2.trans (s3.trans s5)), q4⟩
      | ct => exact fun σ5 F5 H5 R5 s5 => ⟨F5, ρ4, R5, s'.trans (s2.trans (s3.trans s5)), q4⟩
      | bk => exact fun σ5 F5 H5 R5 s5 => q4 σ5 F5 H5 R5 (sAll.trans s5)
      | rt t => exact fun v σ5 F5 H5 R5 s5 r5 => q4 v σ5 F5 H5 R5 (sAll.trans s5) r5
  · obtain ⟨F', ρ', R', s', d⟩ := q
    rw [List.drop_length] at d
    exact d σ' F' H' R' (s1.trans s')
/-! ### while -/
def whl (g : M Bool) (body : MS) : Nat → MS
  | 0, _ => .bad
  | n + 1, ρ => (g ρ).bind fun b ρ => if b = true then (body ρ).bind fun fl ρ => match fl with
      | .nx => whl g body n ρ
      | .ct => whl g body n ρ
      | .bk => .ok .nx ρ
      | .rt t => .ok (.rt t) ρ
    else .ok .nx ρ
theorem fs_while {body : List Stmt} {sb : MS} (n : Nat) (hp : PassesOwn (model X.prog X.w) X.A X.env X.xe) (hc : FT X E c g) (hb : FSs X E body sb) : FS X E (.While c body [] pos) (whl g sb n) := by
  refine ps_imp (ps_while hp hc hb) fun D σ H h => ?_
  obtain ⟨k, F, ρ, R, h⟩ := h
  refine ⟨fun m σ' H' => ∃ F' ρ', RSk X k F' ρ' σ' H' ∧ Same F F' ∧ Den (whl g sb m ρ') (Post X k F D) (XOk X.K X.mg k E), ⟨n, F, ρ, R, Same.refl _, h⟩, fun m σ' H' q => ?_⟩
  obtain ⟨F', ρ', R', s', d⟩ := q
  cases m with
  | zero => exact d.elim
  | succ m =>
    unfold whl at d
    refine ⟨k, F', ρ', R', (Den.bind d).imp fun b ρ1 d1 F1 H1 R1 s1 => ?_⟩
    split at d1
    · rename_i eb
      rw [if_pos eb]
      refine ⟨fun σ2 H2 => ∃ F2 ρ2, RSk X k F2 ρ2 σ2 H2 ∧ Same F F2 ∧ Den (whl g sb m ρ2) (Post X k F D) (XOk X.K X.mg k E), fun σ2 H2 q2 => ⟨m, Nat.lt_succ_self m, q2⟩, k, F1, ρ1, R1, (Den.bind d1).imp fun fl ρ4 q4 => ?_⟩
      have sAll : Same F F1 := s'.trans s1
      cases fl with
      | nx => exact fun σ5 F5 H5 R5 s5 => ⟨F5, ρ4, R5, sAll.trans s5, q4⟩
      | ct => exact fun σ5 F5 H5 R5 s5 => ⟨F5, ρ4, R5, sAll.trans s5, q4⟩
      | bk => exact fun σ5 F5 H5 R5 s5 => q4 σ5 F5 H5 R5 (sAll.trans s5)
      | rt t => exact fun v σ5 F5 H5 R5 s5 r5 => q4 v σ5 F5 H5 R5 (sAll.trans s5) r5
    · rename_i eb
      rw [if_neg eb]
      exact d1 σ' F1 H1 R1 (s'.trans s1)
end
end FL

/-! FL6: comprehensions; objects changed; calls of defs. -/
namespace FL
open PySem PySem.Spec L2

/-! ### another view of the slots -/
section
variable {K : PySem.W.Frag} {mg : Str → Option Value} {B F0 F F' : Hp} {pm : Option Addr} {ρ ρ' ys : Env} {σ σ' ws : L2.St} {H H' : Hp} {i : Nat} {x : SV}
theorem RS.re (R : RS K mg B F0 pm rw F ρ σ H) (hl : ρ'.length = σ'.length) (h : ∀ (i : Nat) (x : SV), ρ'[i]? = some x → x = SV.un ∨ (∃ t v, x = .fz t ∧ σ'[i]? = some (some v) ∧ Rep K mg F t v) ∨ (ρ[i]? = some x ∧ σ'[i]? = σ[i]?)) : RS K mg B F0 pm rw F ρ' σ' H := by
  obtain ⟨α, h1, h2⟩ := R.ex
  have own : ∀ (i : Nat) (x : SV), ρ'[i]? = some x → x.owned = true → ρ[i]? = some x := fun i x hx ox => by
    rcases h i x hx with e | ⟨t, v, e, _⟩ | ⟨e, _⟩
    · subst e; cases ox
    · subst e; cases ox
    · exact e
  refine ⟨hl, R.fh, R.bh, R.f0, R.fr, R.pt, R.tb, α, fun i x hx => ?_, fun j k x y hx hy ox oy ne => h2 j k x y (own j x hx ox) (own k y hy oy) ox oy ne⟩
  rcases h i x hx with e | ⟨t, v, e, e1, e2⟩ | ⟨e, e1⟩
  · subst e; trivial
  · subst e; exact ⟨v, e1, e2⟩
  · have q := h1 i x e
    cases x with
    | un => trivial
    | fz t => obtain ⟨v, a, b⟩ := q; exact ⟨v, e1.trans a, b⟩
    | raw n => obtain ⟨v, a, b⟩ := q; exact ⟨v, e1.trans a, b⟩
    | ow o => obtain ⟨a, b⟩ := q; exact ⟨e1.trans a, b⟩
    | pa o => obtain ⟨a, b⟩ := q; exact ⟨e1.trans a, b⟩
/-- the slot x with another object -/
def SV.to (x : SV) (o' : O) : SV := match x with
  | .pa _ => .pa o'
  | _ => .ow o'
theorem RS.chg {o o' : O} (R : RS K mg B F0 pm rw F ρ σ H) (hi : ρ[i]? = some x) (hx : x = .ow o ∨ x = .pa o) : ∃ a h, σ[i]? = some (some (.ref a)) ∧ F a = none ∧ H a = some h ∧ ORep K mg F o h ∧
    ∀ {h'}, ORep K mg F o' h' → RS K mg B F0 pm rw F (ρ.set i (x.to o')) σ (upd H a h') := by
  obtain ⟨α, h1, h2⟩ := R.ex
  have q : σ[i]? = some (some (.ref (α i))) ∧ F (α i) = none ∧ B (α i) = none ∧ ∃ h, H (α i) = some h ∧ ORep K mg F o h := by
    have q := h1 i x hi
    rcases hx with e | e
    · subst e; obtain ⟨a, b, c, d, e⟩ := q; exact ⟨a, b, c, e⟩
    · subst e; obtain ⟨a, b, c, d, e⟩ := q; exact ⟨a, b, c, e⟩
  obtain ⟨es, fn, bn, h, hh, ro⟩ := q
  refine ⟨α i, h, es, fn, hh, ro, fun {h'} r' => ?_⟩
  have ox : x.owned = true := by rcases hx with e | e <;> subst e <;> rfl
  have hlt : i < ρ.length := (List.getElem?_eq_some_iff.mp hi).1
  have keep : ∀ (G : Hp), Same G H → G (α i) = none → Same G (upd H (α i) h') := fun G s n b u e => by
    rw [upd_ne (ne_of_none e n)]; exact s _ _ e
  have src : ∀ (j : Nat) (y : SV), (ρ.set i (x.to o'))[j]? = some y → (j = i ∧ y = (x.to o')) ∨ (j ≠ i ∧ ρ[j]? = some y) := fun j y hy => by
    by_cases e : j = i
    · subst e
      rw [List.getElem?_set_self hlt] at hy
      exact .inl ⟨rfl, (Option.some.inj hy).symm⟩
    · rw [List.getElem?_set_ne (Ne.symm e)] at hy
      exact .inr ⟨e, hy⟩
  have was : ∀ (j : Nat) (y : SV), (ρ.set i (x.to o'))[j]? = some y → y.owned = true → ∃ z : SV, ρ[j]? = some z ∧ z.owned = true := fun j y hy oy => by
    rcases src j y hy with ⟨e, _⟩ | ⟨_, e⟩
    · subst e; exact ⟨x, hi, ox⟩
    · exact ⟨y, e, oy⟩
  refine ⟨by simpa using R.len, keep F R.fh fn, keep B R.bh bn, R.f0, R.fr, fun a z => ?_, R.tb.updH hh ro.plain, α, fun j y hy => ?_, fun j m y z hy hz oy oz ne => ?_⟩
  · obtain ⟨u, q⟩ := R.pt a z
    by_cases ha : a = α i
    · exact ⟨h', by rw [ha, upd_same]⟩
    · exact ⟨u, by rw [upd_ne ha]; exact q⟩
  · rcases src j y hy with ⟨e, ey⟩ | ⟨ne, e⟩
    · subst e
      have q := h1 j x hi
      rcases hx with e | e
      · subst e
        have ey' : y = .ow o' := ey
        subst ey'
        obtain ⟨a, b, c, d, _⟩ := q
        exact ⟨a, b, c, d, h', upd_same, r'⟩
      · subst e
        have ey' : y = .pa o' := ey
        subst ey'
        obtain ⟨a, b, c, d, _⟩ := q
        exact ⟨a, b, c, d, h', upd_same, r'⟩
    · have q := h1 j y e
      cases y with
      | un => trivial
      | fz t => exact q
      | raw n => exact q
      | ow o1 =>
        obtain ⟨a, b, c, d, u, e1, e2⟩ := q
        exact ⟨a, b, c, d, u, by rw [upd_ne (h2 j i _ x e hi rfl ox ne)]; exact e1, e2⟩
      | pa o1 =>
        obtain ⟨a, b, c, d, u, e1, e2⟩ := q
        exact ⟨a, b, c, d, u, by rw [upd_ne (h2 j i _ x e hi rfl ox ne)]; exact e1, e2⟩
  · obtain ⟨y', hy', oy'⟩ := was j y hy oy
    obtain ⟨z', hz', oz'⟩ := was m z hz oz
    exact h2 j m y' z' hy' hz' oy' oz' ne
end

/-! ### a block's own slots -/
def wipeE (ρ : Env) : List Nat → Env
  | [] => ρ
  | v :: vs => (wipeE ρ vs).set v .un
def bring (ρ0 ρ : Env) : List Nat → Env
  | [] => ρ
  | v :: vs => (bring ρ0 ρ vs).set v (ρ0.getD v .un)
def freeS (ρ : Env) (vs : List Nat) : Bool := vs.all fun v => match ρ[v]? with
  | some (.ow _) => false
  | some (.pa _) => false
  | some (.raw _) => false
  | _ => true
theorem wipeE_length (ρ : Env) : ∀ vs : List Nat, (wipeE ρ vs).length = ρ.length
  | [] => rfl
  | v :: vs => by unfold wipeE; rw [List.length_set, wipeE_length ρ vs]
theorem bring_length (ρ0 ρ : Env) : ∀ vs : List Nat, (bring ρ0 ρ vs).length = ρ.length
  | [] => rfl
  | v :: vs => by unfold bring; rw [List.length_set, bring_length ρ0 ρ vs]
theorem wipeE_get {ρ : Env} {i : Nat} {x : SV} : ∀ {vs : List Nat}, (wipeE ρ vs)[i]? = some x → x = .un ∨ (ρ[i]? = some x ∧ i ∉ vs)
  | [], h => .inr ⟨h, by simp⟩
  | v :: vs, h => by
    unfold wipeE at h
    by_cases e : v = i
    · subst e
      have hl := (List.getElem?_eq_some_iff.mp h).1
      rw [List.length_set] at hl
      rw [List.getElem?_set_self hl] at h
      exact .inl (Option.some.inj h).symm
    · rw [List.getElem?_set_ne e] at h
      rcases wipeE_get h with q | ⟨q, n⟩
      · exact .inl q
      · exact .inr ⟨q, by simp only [List.mem_cons, not_or]; exact ⟨fun z => e z.symm, n⟩⟩
theorem wipe_get {σ : L2.St} {i : Nat} : ∀ {vs : List Nat}, i ∉ vs → (wipe σ vs)[i]? = σ[i]?
  | [], _ => rfl
  | v :: vs, h => by
    simp only [List.mem_cons, not_or] at h
    unfold wipe
    rw [List.getElem?_set_ne (fun z => h.1 z.symm)]
    exact wipe_get h.2
theorem wipe_un {σ : L2.St} {i : Nat} : ∀ {vs : List Nat}, i ∈ vs → i < σ.length → (wipe σ vs)[i]? = some none
  | v :: vs, h, hl => by
    unfold wipe
    by_cases e : v = i
    · subst e
      rw [List.getElem?_set_self (by rw [wipe_length]; exact hl)]
    · rw [List.getElem?_set_ne e]
      exact wipe_un ((List.mem_cons.mp h).resolve_left fun z => e z.symm) hl
theorem wipe_eq {σ σ' : L2.St} {vs : List Nat} (hl : σ'.length = σ.length) (h : ∀ j, j ∉ vs → σ'[j]? = σ[j]?) : wipe σ' vs = wipe σ vs := by
  apply List.ext_getElem?
  intro i
  by_cases hi : i ∈ vs
  · by_cases hlt : i < σ.length
    · rw [wipe_un hi (by omega), wipe_un hi hlt]
    · rw [List.getElem?_eq_none (by rw [wipe_length]; omega), List.getElem?_eq_none (by rw [wipe_length]; omega)]
  · rw [wipe_get hi, wipe_get hi, h i hi]
theorem bring_get {ρ0 ρ : Env} {i : Nat} : ∀ {vs : List Nat}, (i ∉ vs → (bring ρ0 ρ vs)[i]? = ρ[i]?) ∧ (i ∈ vs → i < ρ.length → (bring ρ0 ρ vs)[i]? = some (ρ0.getD i .un))
  | [] => ⟨fun _ => rfl, fun h => by cases h⟩
  | v :: vs => by
    refine ⟨fun h => ?_, fun h hl => ?_⟩
    · simp only [List.mem_cons, not_or] at h
      unfold bring
      rw [List.getElem?_set_ne (fun z => h.1 z.symm)]
      exact bring_get.1 h.2
    · unfold bring
      by_cases e : v = i
      · subst e
        rw [List.getElem?_set_self (by rw [bring_length]; exact hl)]
      · rw [List.getElem?_set_ne e]
        exact bring_get.2 ((List.mem_cons.mp h).resolve_left fun z => e z.symm) hl
theorem freeS_bring {ρ0 ρ : Env} {vs : List Nat} (h : freeS ρ0 vs = true) (hl : ρ.length = ρ0.length) : freeS (bring ρ0 ρ vs) vs = true := by
  unfold freeS at h ⊢
  rw [List.all_eq_true] at h ⊢
  intro v hv
  have q := h v hv
  by_cases hlt : v < ρ.length
  · rw [bring_get.2 hv hlt]
    have e : ρ0[v]? = some (ρ0.getD v .un) := by
      rw [List.getD_eq_getElem?_getD, List.getElem?_eq_getElem (by omega)]
      rfl
    rw [e] at q
    exact q
  · rw [List.getElem?_eq_none (by rw [bring_length]; omega)]
section
variable {K : PySem.W.Frag} {mg : Str → Option Value} {B F0 F F' : Hp} {pm : Option Addr} {ρ ρ' ρ0 : Env} {σ σ' : L2.St} {H H' H0 : Hp} {vs : List Nat}
theorem RS.wiped (R : RS K mg B F0 pm rw F ρ σ H) (vs : List Nat) : RS K mg B F0 pm rw F (wipeE ρ vs) (wipe σ vs) H := by
  refine R.re (by rw [wipeE_length, wipe_length]; exact R.len) fun i x hx => ?_
  rcases wipeE_get hx with e | ⟨e, n⟩
  · exact .inl e
  · exact .inr (.inr ⟨e, wipe_get n⟩)
theorem RS.brought {B0 : Hp} {F1 : Hp} {p0 : Option Addr} (R : RS K mg B F0 pm rw F' ρ' σ' H') (R0 : RS K mg B0 F1 p0 rw F ρ0 σ H0) (s : Same F F') (hl : σ'.length = σ.length) (h : ∀ j, j ∉ vs → σ'[j]? = σ[j]?) (hf : freeS ρ0 vs = true) :
    RS K mg B F0 pm rw F' (bring ρ0 ρ' vs) σ H' := by
  have l0 := R0.len
  have l1 := R.len
  refine R.re (by rw [bring_length, l1, hl]) fun i x hx => ?_
  have hi : i < ρ'.length := by
    have := (List.getElem?_eq_some_iff.mp hx).1
    rwa [bring_length] at this
  by_cases hv : i ∈ vs
  · rw [bring_get.2 hv hi] at hx
    have e : ρ0[i]? = some (ρ0.getD i .un) := by
      rw [List.getD_eq_getElem?_getD, List.getElem?_eq_getElem (by omega)]
      rfl
    have ex := Option.some.inj hx
    rw [ex] at e
    unfold freeS at hf
    rw [List.all_eq_true] at hf
    have q := hf i hv
    rw [e] at q
    cases x with
    | un => exact .inl rfl
    | fz t =>
      obtain ⟨v, a, b⟩ := R0.slot e
      exact .inr (.inl ⟨t, v, rfl, a, b.mono s⟩)
    | ow o => cases q
    | pa o => cases q
    | raw n => cases q
  · rw [bring_get.1 hv] at hx
    exact .inr (.inr ⟨hx, (h i hv).symm⟩)
end
def noX {α : Type} (r : Res α) : Res α := match r with
  | .exc _ => .bad
  | r => r
theorem Den.noX {α : Type} {r : Res α} {p : α → Env → Prop} {x y : Ex → Prop} (h : Den (noX r) p x) : Den r p y := by
  cases r with
  | bad => exact h
  | exc e => exact (show False from h).elim
  | ok a ρ => exact h
/-! ### [e for x in xs if t] -/
def lcL (vs : List Nat) (g : MG) (test : M Bool) (elt : M T) : List T → List T → Env → Res (List T)
  | [], acc, ρ => .ok acc ρ
  | t :: ts, acc, ρ0 => match g t (wipeE ρ0 vs) with
    | none => .bad
    | some ρ1 => (noX (test ρ1)).bind fun b ρ2 => if b = true then (noX (elt ρ2)).bind fun y ρ3 => if acc.length < 16777216 then lcL vs g test elt ts (acc ++ [y]) (bring ρ0 ρ3 vs) else .bad
      else lcL vs g test elt ts acc (bring ρ0 ρ2 vs)
def lcM (vs : List Nat) (src : M (List T)) (g : MG) (test : M Bool) (elt : M T) : M O := fun ρ => (src ρ).bind fun ts ρ => if freeS ρ vs = true then (lcL vs g test elt ts [] ρ).bind fun l ρ => .ok (.l l) ρ else .bad
abbrev FTs (X : Cx) (E : XK) (ifs : List Expr) (f : M Bool) : Prop := PTs X ifs (tT X E f)
def yes : M Bool := fun ρ => .ok true ρ
section
variable {X : Cx} {E : XK} {e c : Expr} {es : List Expr} {pos : Pos} {f : M T} {fo : M O} {fs : M (List T)} {g : M Bool}
theorem fts_nil : FTs X E [] yes := ⟨fun pins s σ H Q I ⟨k, F, ρ, R, h⟩ => pts_nil.run pins s σ H Q I (h F H R (Same.refl _))⟩
theorem fts_one (h : FT X E c g) : FTs X E [c] g := pts_one h
/-- the lent slot at the end of the state -/
theorem end_slot {ρ : Env} {o : O} : (ρ ++ [SV.ow o])[ρ.length]? = some (.ow o) := by simp
theorem end_set {ρ : Env} {o : O} {x : SV} : (ρ ++ [SV.ow o]).set ρ.length x = ρ ++ [x] := by simp
theorem lc_of {own : List (Str × Nat)} {src : M (List T)} {gt : MG} {is : List Nat} {test : M Bool} (his : ∀ i ∈ is, i ∈ own.map (·.2)) {σ : L2.St} {H : Hp} {Q : VK} (h : tO X E (lcM (own.map (·.2)) src gt test f) σ H Q) :
    tLc (tI X E src) (tG X is gt) (tT X E0 test) (tE X E0 f) (own.map (·.2)) σ H Q := by
  obtain ⟨k, F, ρ, R, h⟩ := h
  refine ⟨k, F, ρ, R, (Den.bind h).imp fun ts ρ1 h1 J F1 H1 R1 s1 w1 => fun D nD => ?_⟩
  have hfree : freeS ρ1 (own.map (·.2)) = true := by
    cases e : freeS ρ1 (own.map (·.2)) with
    | true => rfl
    | false => rw [e] at h1; exact (show False from h1).elim
  rw [if_pos hfree] at h1
  have h2 := Den.bind h1
  refine lc_it w1 (fun i H' => ∃ F' ρ' acc, RSk X k F' (ρ' ++ [SV.ow (.l acc)]) (σ ++ [some (.ref D)]) H' ∧ ρ'.length = σ.length ∧ Same F1 F' ∧ freeS ρ' (own.map (·.2)) = true ∧
    Den (lcL (own.map (·.2)) gt test f (ts.drop i) acc ρ') (fun l ρ'' => Den (Res.ok (O.l l) ρ'') (fun o ρ' => ∀ v F' H', RSk X k F' (ρ' ++ [SV.ow o]) (σ ++ [some v]) H' → Same F F' → ρ'.length = σ.length → Q v H') (XOk X.K X.mg k E)) (XOk X.K X.mg k E)) ?_ (fun i H' _ q => ?_) (fun i x H' H'' hlt q y => ?_) (fun H' q => ?_)
  · exact ⟨F1, ρ1, [], R1.newO (o := .l []) ⟨[], rfl, .nil⟩ nD, R1.len, Same.refl _, hfree, h2⟩
  · obtain ⟨F', ρ', acc, R', _, s', _⟩ := q
    exact s'.trans R'.fh
  · obtain ⟨F', ρ', acc, R', l', s', fr', d⟩ := q
    obtain ⟨t, F2, et, R2, s2, r2⟩ := (y.grow s').take R'
    have ed : ts.drop i = t :: ts.drop (i + 1) := by
      rw [List.drop_eq_getElem_cons hlt]
      rw [List.getElem?_eq_getElem hlt] at et
      rw [Option.some.inj et]
    rw [ed] at d
    unfold lcL at d
    obtain ⟨p, ho, ep, fp, bp, npm, hp, ro, R0⟩ := RS.aside R2 l'
    cases ep
    have f0 : k.F0 D = none := R2.f0.free fp
    split at d
    · exact d.elim
    · rename_i ρ2 e2
      let k' : Bk := ⟨upd k.B D ho, k.F0, k.pm, k.rw⟩
      refine ⟨k', F2, _, t, R0.wiped (own.map (·.2)), r2, ρ2, e2, fun σ3 F3 H3 R3 s3 l3 d3 => ⟨?_, ?_⟩⟩
      · rw [wipe_eq l3 fun j hj => d3 j fun z => hj (his j z)]
        exact wipe_eq (by rw [wipe_length]) fun j hj => wipe_get hj
      · have dk : ∀ {σ' : L2.St}, σ' = σ3 → σ'.length = σ.length ∧ ∀ j, j ∉ own.map (·.2) → σ'[j]? = σ[j]? := fun {σ'} e => by
          subst e
          refine ⟨by rw [l3, wipe_length], fun j hj => ?_⟩
          rw [d3 j fun z => hj (his j z), wipe_get hj]
        refine ⟨k', F3, ρ2, R3, Den.noX (y := XOk X.K X.mg k' E0) ((Den.bind d).imp fun b ρ4 d4 => fun F4 H4 R4 s4 => ?_)⟩
        split at d4
        · rename_i eb
          rw [if_pos eb]
          refine ⟨k', F4, ρ4, R4, Den.noX (y := XOk X.K X.mg k' E0) ((Den.bind d4).imp fun z ρ5 d5 => fun v F5 H5 R5 s5 r5 => ?_)⟩
          split at d5
          · rename_i hz
            have sx : Same F2 F5 := s3.trans (s4.trans s5)
            have R6 := RS.brought R5 R0 sx (dk rfl).1 (dk rfl).2 fr'
            have l6 : (bring ρ' ρ5 (own.map (·.2))).length = σ.length := R6.len
            have R7 := RS.back (ys := []) (ws := []) (by rw [List.append_nil, List.append_nil]; exact R6) l6 f0 bp npm (ro.mono sx)
            obtain ⟨a, h, ea, _, hh, roh, mk⟩ := RS.chg (o := .l acc) (o' := .l (acc ++ [z])) R7 end_slot (.inl rfl)
            have eD : a = D := by
              rw [l6] at ea
              simpa using ea.symm
            subst eD
            obtain ⟨accV, rfl, rv⟩ := roh
            refine ⟨accV, hh, by rw [← rv.length, szL]; exact hz, F5, bring ρ' ρ5 (own.map (·.2)), acc ++ [z], ?_, l6, s'.trans (s2.trans sx), freeS_bring fr' (by rw [R5.len, (dk rfl).1, l']), d5⟩
            have q := mk (h' := .lst (accV ++ [v])) ⟨_, rfl, rv.append (.one r5)⟩
            rw [end_set] at q
            exact q
          · exact d5.elim
        · rename_i eb
          rw [if_neg eb]
          have sx : Same F2 F4 := s3.trans s4
          have R6 := RS.brought R4 R0 sx (dk rfl).1 (dk rfl).2 fr'
          have l6 : (bring ρ' ρ4 (own.map (·.2))).length = σ.length := R6.len
          have R7 := RS.back (ys := []) (ws := []) (by rw [List.append_nil, List.append_nil]; exact R6) l6 f0 bp npm (ro.mono sx)
          exact ⟨F4, bring ρ' ρ4 (own.map (·.2)), acc, R7, l6, s'.trans (s2.trans sx), freeS_bring fr' (by rw [R4.len, (dk rfl).1, l']), d4⟩
  · obtain ⟨F', ρ', acc, R', l', s', _, d⟩ := q
    rw [List.drop_length] at d
    exact d _ F' H' R' (s1.trans s') l'
theorem fo_lc {elt tg iter : Expr} {ifs : List Expr} {scope : Scope} {own : List (Str × Nat)} {src : M (List T)} {gt : MG} {is : List Nat} {test : M Bool} (hc : X.calm = true) (hN : X.N.Nodup) (hi : FI X E tg iter src) (ok : BlkOk X.N X.env.scope scope own)
    (hg : ∀ (s : Shared) (H : Hp) (C : Addr) (cl : List (Str × Addr)) (fp : List Addr), PG (X.blk s H scope (compEnvC scope cl C X.env) fp) tg (tG X is gt)) (his : ∀ i ∈ is, i ∈ own.map (·.2))
    (ht : ∀ (s : Shared) (H : Hp) (C : Addr) (cl : List (Str × Addr)) (fp : List Addr), PTs (X.blk s H scope (compEnvC scope cl C X.env) fp) ifs (tT X E0 test))
    (he : ∀ (s : Shared) (H : Hp) (C : Addr) (cl : List (Str × Addr)) (fp : List Addr), PE (X.blk s H scope (compEnvC scope cl C X.env) fp) elt (tE X E0 f)) (hs : ∀ x, foldedSetIterable iter X.env x = pure x := by intro _; rfl) :
    FO X E (.ListComp elt [⟨tg, iter, ifs, 0⟩] scope pos) (lcM (own.map (·.2)) src gt test f) := pe_imp (pe_lc hc hN hi ok hg ht he hs) fun σ H Q h => lc_of his h
end
end FL

/-! FL7: objects of one's own; isinstance; slices; what a def is worth. -/
namespace FL
open PySem PySem.Spec L2

/-! ### objects of one's own -/
def SV.obj (x : SV) : Option O := match x with
  | .ow o => some o
  | .pa o => some o
  | _ => none
def rdOwn (i : Nat) (ρ : Env) : Option O := ρ[i]?.bind SV.obj
def setOwn (i : Nat) (o : O) (ρ : Env) : Env := match ρ[i]? with
  | some x => ρ.set i (x.to o)
  | none => ρ
theorem obj_cases {x : SV} {o : O} (h : x.obj = some o) : x = .ow o ∨ x = .pa o := by
  cases x <;> simp only [SV.obj, Option.some.injEq, reduceCtorEq] at h
  · subst h; exact .inl rfl
  · subst h; exact .inr rfl
section
variable {K : PySem.W.Frag} {mg : Str → Option Value} {B F0 F F' : Hp} {pm : Option Addr} {ρ ρ' : Env} {σ σ' : L2.St} {H H' : Hp} {i : Nat}
theorem RS.own {o : O} (R : RS K mg B F0 pm rw F ρ σ H) (h : rdOwn i ρ = some o) : ∃ a h, σ[i]? = some (some (.ref a)) ∧ F a = none ∧ H a = some h ∧ ORep K mg F o h ∧
    ∀ {o' : O} {h' : HO}, ORep K mg F o' h' → RS K mg B F0 pm rw F (setOwn i o' ρ) σ (upd H a h') := by
  unfold rdOwn at h
  rw [Option.bind_eq_some_iff] at h
  obtain ⟨x, hx, ho⟩ := h
  obtain ⟨a, h, e1, e2, e3, e4, _⟩ := R.chg (o := o) (o' := o) hx (obj_cases ho)
  refine ⟨a, h, e1, e2, e3, e4, fun {o' h'} r => ?_⟩
  obtain ⟨a', h2, e1', _, _, _, mk⟩ := R.chg (o := o) (o' := o') hx (obj_cases ho)
  rw [e1] at e1'
  cases e1'
  unfold setOwn
  rw [hx]
  exact mk r
end
section
variable {X : Cx} {E : XK} {e b : Expr} {es : List Expr} {pos p : Pos} {f fb fv : M T} {fs : M (List T)} {i : Nat} {x : Str}
/-- the object in slot i, behind an evaluation -/
theorem own_two {k k' : Bk} {F F1 : Hp} {ρ ρ1 : Env} {σ : L2.St} {H H1 : Hp} {o : O} {a : Addr} {h : HO} (R1 : RSk X k F1 ρ1 σ H1) (es : σ[i]? = some (some (.ref a))) (h : rdOwn i ρ1 = some o) : ∃ h, F1 a = none ∧ H1 a = some h ∧ ORep X.K X.mg F1 o h ∧
    ∀ {o' : O} {h' : HO}, ORep X.K X.mg F1 o' h' → RSk X k F1 (setOwn i o' ρ1) σ (upd H1 a h') := by
  obtain ⟨a1, h1, e1, e2, e3, e4, mk⟩ := R1.own h
  rw [es] at e1
  cases e1
  exact ⟨h1, e2, e3, e4, mk⟩
def withOwn {α : Type} (i : Nat) (f : M α) : M α := fun ρ => match rdOwn i ρ with
  | some _ => f ρ
  | none => .bad
theorem Den.own {α : Type} {f : M α} {ρ : Env} {p : α → Env → Prop} {x : Ex → Prop} (h : Den (withOwn i f ρ) p x) : (∃ o, rdOwn i ρ = some o) ∧ Den (f ρ) p x := by
  unfold withOwn at h
  split at h
  · rename_i o e
    exact ⟨⟨o, e⟩, h⟩
  · exact h.elim
/-- x[e] = v -/
def sSetI (i : Nat) (fi fv : M T) : MS := fun ρ => (fv ρ).bind fun t ρ => withOwn i (fun ρ => (fi ρ).bind fun y ρ => match rdOwn i ρ, y with
  | some (.l ts), .int j => match idx ts.length j with
    | some m => .ok .nx (setOwn i (.l (ts.set m t)) ρ)
    | none => .bad
  | _, _ => .bad) ρ
theorem fs_setI {p2 : Pos} {fi : M T} (hN : X.N[i]? = some x := by rfl) (hv : Vis X.env.scope x := by first | exact Or.inl rfl | exact Or.inr (Or.inl rfl) | exact Or.inr (Or.inr rfl)) (hb : FE X E b fi) (he : FE X E e fv)
    (ha : ∀ v, assign (.Subscript (.Name x p) b p2) X.env v = (do
      let ov ← holding [v] (eval (.Name x p) X.env)
      let iv ← holding [v, ov] (eval b X.env)
      standAt p2
      holding [v, ov, iv] (setItem ov iv v)
      release [v, ov, iv] []) := by intro _; rfl) (hs : swapsWithSole [Expr.Subscript (.Name x p) b p2] e pos.line X.env = pure false := by rfl) (hw : swappedStores [Expr.Subscript (.Name x p) b p2] e X.env = pure none := by rfl)
    (h1 : (assignEach [Expr.Subscript (.Name x p) b p2] X.env).map (·.2) = [assign (Expr.Subscript (.Name x p) b p2) X.env] := by rfl) (hd : (x == ("__debug__" : Str)) = false := by decide) (hcd : (x == ("__classdict__" : Str)) = false := by decide) :
    FS X E (.Assign [.Subscript (.Name x p) b p2] e pos) (sSetI i fi fv) := by
  refine ps_imp (ps_asg he (pg_sub (pe_var hN hv hd hcd) hb set_list ha) hs hw h1) fun D σ H h => ?_
  obtain ⟨k, F, ρ, R, h⟩ := h
  refine ⟨k, F, ρ, R, (Den.bind h).imp fun t ρ1 h1 v F1 H1 R1 s1 r1 => ?_⟩
  obtain ⟨⟨o, ho⟩, h1⟩ := Den.own h1
  obtain ⟨a, h0, es, _⟩ := R1.own ho
  refine ⟨.ref a, es, k, F1, ρ1, R1, (Den.bind h1).imp fun y ρ2 h2 w F2 H2 R2 s2 r2 => ?_⟩
  split at h2
  · rename_i ts j e1
    split at h2
    · rename_i m em
      obtain ⟨h3, e2, e3, e4, mk⟩ := own_two (k' := k) (F := F) (ρ := ρ) (H := H) (h := h0) R2 es e1
      obtain ⟨vs, rfl, rv⟩ := e4
      refine ⟨a, vs, j, m, rfl, r2, e3, by rw [← rv.length]; exact em, ?_⟩
      exact h2 _ F2 _ (mk (o' := .l (ts.set m t)) ⟨_, rfl, rv.set (r1.mono s2) m⟩) (s1.trans s2)
    · exact h2.elim
  · exact h2.elim
def isL (o : Option O) : Bool := match o with
  | some (.l _) => true
  | _ => false
theorem tyV_own {k : Bk} {F : Hp} {ρ : Env} {σ : L2.St} {H : Hp} {a : Addr} {h : HO} {o : O} (e : H a = some h) (r : ORep X.K X.mg F o h) (hl : isL (some o) = true) : tyV X.K "list" (.ref a) H := by
  cases o with
  | l ts => obtain ⟨vs, rfl, _⟩ := r; exact .inl ⟨rfl, vs, SqL.of e⟩
  | dk _ _ => cases hl
  | dt _ _ => cases hl
  | db _ _ => cases hl
def withL {α : Type} (i : Nat) (f : M α) : M α := fun ρ => if isL (rdOwn i ρ) = true then f ρ else .bad
theorem Den.ownL {α : Type} {f : M α} {ρ : Env} {p : α → Env → Prop} {x : Ex → Prop} (h : Den (withL i f ρ) p x) : (∃ ts, rdOwn i ρ = some (.l ts)) ∧ Den (f ρ) p x := by
  unfold withL at h
  split at h
  · rename_i e
    refine ⟨?_, h⟩
    cases q : rdOwn i ρ with
    | none => rw [q] at e; cases e
    | some o =>
      rw [q] at e
      cases o with
      | l ts => exact ⟨ts, rfl⟩
      | dk _ _ => cases e
      | dt _ _ => cases e
      | db _ _ => cases e
  · exact h.elim
def apnM (i : Nat) (f : M T) : M T := withL i fun ρ => (f ρ).bind fun y ρ => match rdOwn i ρ with
  | some (.l ts) => if ts.length < 16777216 then .ok .non (setOwn i (.l (ts ++ [y])) ρ) else .bad
  | _ => .bad
theorem fe_append {apos cpos : Pos} (hN : X.N[i]? = some x := by rfl) (he : FE X E e f) (hv : Vis X.env.scope x := by first | exact Or.inl rfl | exact Or.inr (Or.inl rfl) | exact Or.inr (Or.inr rfl)) (hd : (x == ("__debug__" : Str)) = false := by decide) (hcd : (x == ("__classdict__" : Str)) = false := by decide)
    (hbase : attributeBase (Expr.Name x p) "append" X.env (eval (Expr.Name x p) X.env) = eval (Expr.Name x p) X.env := by rfl)
    (hfew : ((backTo cpos (starEach [e] X.env)).all (fun x => !x.1) && (backToKw cpos (keywordEach [] X.env)).all (fun x => x.1.isSome)
      && decide ([e].length + ([] : List Keyword).length + (if ([] : List Keyword).isEmpty then 0 else 1) < 30)) = true := by rfl)
    (hline : (apos.endLine == cpos.line) = true := by rfl) (hs : starEach [e] X.env = (false, eval e X.env) :: starEach [] X.env := by rfl) (hplain : (backTo cpos (starEach [] X.env)).any (·.1) = false := by rfl) :
    FE X E (.Call (.Attribute (.Name x p) "append" apos) [e] [] cpos) (apnM i f) := by
  refine pe_imp (pe_bm PySem.F.plainAttrs_list PySem.F.slot_list_append PySem.F.type_list_append mt_append (pe_var hN hv hd hcd) (pa_cons he pa_nil hs) hbase hfew hline hs hplain) fun σ H Q h => ?_
  obtain ⟨k, F, ρ, R, h⟩ := h
  obtain ⟨⟨ts0, ho⟩, h⟩ := Den.ownL h
  obtain ⟨a, h0, es, e2, e3, e4, _⟩ := R.own ho
  refine ⟨.ref a, es, tyV_own (k := k) (ρ := ρ) (σ := σ) e3 e4 rfl, k, F, ρ, R, (Den.bind h).imp fun y ρ1 h1 v F1 H1 R1 s1 r1 => ?_⟩
  split at h1
  · rename_i ts e1
    split at h1
    · rename_i hz
      obtain ⟨h3, e2, e3, e4, mk⟩ := own_two (k' := k) (F := F) (ρ := ρ) (H := H) (h := h0) R1 es e1
      obtain ⟨vs, rfl, rv⟩ := e4
      rw [rv.length] at hz
      refine ⟨a, vs, v, rfl, rfl, e3, by rw [szL]; exact hz, ?_⟩
      exact h1 _ F1 _ (mk (o' := .l (ts ++ [y])) ⟨_, rfl, rv.append (.one r1)⟩) s1 rfl
    · exact h1.elim
  · exact h1.elim
theorem RS.freeze {K : PySem.W.Frag} {mg : Str → Option Value} {B F0 F : Hp} {pm : Option Addr} {ρ : Env} {σ : L2.St} {H : Hp} {o : O} (R : RS K mg B F0 pm rw F ρ σ H) (hi : ρ[i]? = some (.ow o)) :
    ∃ a F', σ[i]? = some (some (.ref a)) ∧ Same F F' ∧ Rep K mg F' (frzO o) (.ref a) ∧ RS K mg B F0 pm rw F' (ρ.set i (.fz (frzO o))) σ H := by
  obtain ⟨α, h1, h2⟩ := R.ex
  obtain ⟨es, fn, bn, npm, h, hh, ro⟩ := h1 i _ hi
  have hlt : i < ρ.length := (List.getElem?_eq_some_iff.mp hi).1
  have sF : Same F (upd F (α i) h) := same_upd fn
  have src : ∀ (j : Nat) (y : SV), (ρ.set i (.fz (frzO o)))[j]? = some y → (j = i ∧ y = .fz (frzO o)) ∨ (j ≠ i ∧ ρ[j]? = some y) := fun j y hy => by
    by_cases e : j = i
    · subst e
      rw [List.getElem?_set_self hlt] at hy
      exact .inl ⟨rfl, (Option.some.inj hy).symm⟩
    · rw [List.getElem?_set_ne (Ne.symm e)] at hy
      exact .inr ⟨e, hy⟩
  refine ⟨α i, upd F (α i) h, es, sF, rep_frz fn ro, ⟨by simpa using R.len, fun a u e => ?_, R.bh, R.f0.trans sF, fun a u e => ?_, R.pt, R.tb.updF2 hh ro.plain, α, fun j y hy => ?_, fun j m y z hy hz oy oz ne => ?_⟩⟩
  · by_cases ha : a = α i
    · subst ha; rw [upd_same] at e; cases e; exact hh
    · rw [upd_ne ha] at e; exact R.fh _ _ e
  · by_cases ha : a = α i
    · subst ha; exact .inr (.inl bn)
    · rw [upd_ne ha] at e; exact R.fr _ _ e
  · rcases src j y hy with ⟨e, ey⟩ | ⟨ne, e⟩
    · subst e ey
      exact ⟨_, es, rep_frz fn ro⟩
    · have q := h1 j y e
      cases y with
      | un => trivial
      | fz t => obtain ⟨v, a, b⟩ := q; exact ⟨v, a, b.mono sF⟩
      | raw n => obtain ⟨v, a, b⟩ := q; exact ⟨v, a, b⟩
      | ow o1 => obtain ⟨a, b, c, d, u, e1, e2⟩ := q; exact ⟨a, by rw [upd_ne (h2 j i _ _ e hi rfl rfl ne)]; exact b, c, d, u, e1, e2.mono sF⟩
      | pa o1 => obtain ⟨a, b, c, d, u, e1, e2⟩ := q; exact ⟨a, by rw [upd_ne (h2 j i _ _ e hi rfl rfl ne)]; exact b, c, d, u, e1, e2.mono sF⟩
  · have back : ∀ (n : Nat) (w : SV), (ρ.set i (.fz (frzO o)))[n]? = some w → w.owned = true → ρ[n]? = some w := fun n w hn ow => by
      rcases src n w hn with ⟨_, e⟩ | ⟨_, e⟩
      · subst e; cases ow
      · exact e
    exact h2 j m y z (back j y hy oy) (back m z hz oz) oy oz ne
/-! ### isinstance -/
inductive Ty where
  | non | bl | int | str | lst | tup | dct
  deriving DecidableEq
def Ty.nm : Ty → String
  | .non => "NoneType" | .bl => "bool" | .int => "int" | .str => "str" | .lst => "list" | .tup => "tuple" | .dct => "dict"
def tyT : T → Option Ty
  | .non => some .non
  | .bl _ => some .bl
  | .int _ => some .int
  | .str _ => some .str
  | .lst _ => some .lst
  | .sl _ => some .lst
  | .tup _ => some .tup
  | .dk _ _ => some .dct
  | _ => none
/-- of a type, a class's name (a builtin one) -/
def isTy (a b : Ty) : Bool := decide (a = b) || (decide (a = .bl) && decide (b = .int))
theorem isTy_ok (a b : Ty) : kitB a.nm b.nm = some (isTy a b) := by
  cases a <;> cases b <;> decide +kernel
theorem tyx_of {K : PySem.W.Frag} {mg : Str → Option Value} {F H : Hp} {t : T} {v : V} {y : Ty} (s : Same F H) (r : Rep K mg F t v) (e : tyT t = some y) : TyX K H v (.type y.nm) := by
  have sq : ∀ {a : Addr} {xs : List V}, SqL K H a xs → TyX K H (.ref a) (.type "list") := fun h => by
    rcases h with (h | ⟨o, h⟩) | ⟨o, its, n, h, c, _⟩
    · exact .base (.lst h)
    · exact .base (.frz h)
    · exact .kList h c
  have sqt : ∀ {a : Addr} {xs : List V}, SqT K H a xs → TyX K H (.ref a) (.type "tuple") := fun h => by
    rcases h with (h | ⟨o, h⟩) | ⟨o, its, n, h, c, _⟩
    · exact .base (.tup h)
    · exact .fTuple h
    · exact .kTuple h c
  cases t <;> simp only [tyT, Option.some.injEq, reduceCtorEq] at e <;> subst e
  · have ev : v = .non := r
    subst ev; exact .base .non
  · have ev : v = .bl _ := r
    subst ev; exact .base (.bl _)
  · have ev : v = .int _ := r
    subst ev; exact .base (.int _)
  · have ev : v = .str _ := r
    subst ev; exact .base (.str _)
  · obtain ⟨p, vs, rfl, h1, _⟩ := r; exact sq (SqL.of (s _ _ h1))
  · obtain ⟨p, vs, rfl, h1, _⟩ := r; exact sqt (same_SqT s h1)
  · obtain ⟨p, vs, rfl, h1, _⟩ := r; exact sq (same_SqL s h1)
  · obtain ⟨p, kvs, rfl, h1, _⟩ := r
    exact .base (.dK (s _ _ h1))
def isiO (b : Ty) (t : T) : Option T := (tyT t).map fun a => .bl (isTy a b)
theorem fe_isi (b : Ty) {ty : Str} {a : Expr} {p1 p2 : Pos} {fa : M T} (hg : Gl X "isinstance") (hm : X.mg "isinstance" = none) (hbt : bootBuiltins "isinstance" = some (.builtin "isinstance")) (hgt : Gl X ty) (hmt : X.mg ty = none) (hbty : bootBuiltins ty = some (.type b.nm)) (ha : FE X E a fa)
    (hn : ty ≠ "__name__" := by decide) (hdb : (ty == ("__debug__" : Str)) = false := by decide) (h1 : starEach [a, Expr.Name ty p2] X.env = (false, eval a X.env) :: starEach [Expr.Name ty p2] X.env := by rfl) (h2 : starEach [Expr.Name ty p2] X.env = (false, eval (Expr.Name ty p2) X.env) :: starEach [] X.env := by rfl)
    (hpl : (backTo pos (starEach [Expr.Name ty p2] X.env)).any (·.1) = false := by rfl) : FE X E (.Call (.Name "isinstance" p1) [a, .Name ty p2] [] pos) (op1 (isiO b) fa) := by
  refine pe_imp (pe_callB call_isi hg hm hbt (pa_cons ha (pa_cons (pe_bltn (v := .ty b.nm) hgt hmt hbty rfl hn hdb) pa_nil h2) h1) (by decide) (by decide) h1 hpl) fun σ H Q h => ?_
  obtain ⟨k, F, ρ, R, h⟩ := h
  refine ⟨k, F, ρ, R, (Den.bind h).imp fun t ρ1 h1 v F1 H1 R1 s1 r1 => ?_⟩
  obtain ⟨u, e, q⟩ := Den.lift h1
  unfold isiO at e
  rw [Option.map_eq_some_iff] at e
  obtain ⟨y, e, rfl⟩ := e
  exact ⟨v, .ty b.nm, .type y.nm, .type b.nm, isTy y b, rfl, .ty _, tyx_of R1.fh r1 e, kit_ty (isTy_ok y b), q _ F1 H1 R1 s1 rfl⟩
def isi2O (b c : Ty) (t : T) : Option T := (tyT t).map fun a => .bl (isTy a b || isTy a c)
theorem fe_isi2 (b c : Ty) {ty tz : Str} {a : Expr} {p1 p2 p3 p4 : Pos} {x1} {fa : M T} (hg : Gl X "isinstance") (hm : X.mg "isinstance" = none) (hbt : bootBuiltins "isinstance" = some (.builtin "isinstance")) (hgt : Gl X ty) (hmt : X.mg ty = none) (hbty : bootBuiltins ty = some (.type b.nm))
    (hgz : Gl X tz) (hmz : X.mg tz = none) (hbz : bootBuiltins tz = some (.type c.nm)) (ha : FE X E a fa)
    (hn : ty ≠ "__name__" := by decide) (hdb : (ty == ("__debug__" : Str)) = false := by decide) (hnz : tz ≠ "__name__" := by decide) (hdz : (tz == ("__debug__" : Str)) = false := by decide)
    (h1 : starEach [a, Expr.Tuple [.Name ty p2, .Name tz p3] x1 p4] X.env = (false, eval a X.env) :: starEach [Expr.Tuple [.Name ty p2, .Name tz p3] x1 p4] X.env := by rfl)
    (h2 : starEach [Expr.Tuple [.Name ty p2, .Name tz p3] x1 p4] X.env = (false, eval (Expr.Tuple [.Name ty p2, .Name tz p3] x1 p4) X.env) :: starEach [] X.env := by rfl)
    (h3 : starEach [Expr.Name ty p2, .Name tz p3] X.env = (false, eval (Expr.Name ty p2) X.env) :: starEach [Expr.Name tz p3] X.env := by rfl)
    (h4 : starEach [Expr.Name tz p3] X.env = (false, eval (Expr.Name tz p3) X.env) :: starEach [] X.env := by rfl)
    (hpl : (backTo pos (starEach [Expr.Tuple [.Name ty p2, .Name tz p3] x1 p4] X.env)).any (·.1) = false := by rfl) : FE X E (.Call (.Name "isinstance" p1) [a, .Tuple [.Name ty p2, .Name tz p3] x1 p4] [] pos) (op1 (isi2O b c) fa) := by
  refine pe_imp (pe_callB call_isiT hg hm hbt (pa_cons ha (pa_cons (pe_tup (pa_cons (pe_bltn (v := .ty b.nm) hgt hmt hbty rfl hn hdb) (pa_cons (pe_bltn (v := .ty c.nm) hgz hmz hbz rfl hnz hdz) pa_nil h4) h3)) pa_nil h2) h1) (by decide) (by decide) h1 hpl) fun σ H Q h => ?_
  obtain ⟨k, F, ρ, R, h⟩ := h
  refine ⟨k, F, ρ, R, (Den.bind h).imp fun t ρ1 h1 v F1 H1 R1 s1 r1 => ?_⟩
  obtain ⟨u, e, q⟩ := Den.lift h1
  unfold isi2O at e
  rw [Option.map_eq_some_iff] at e
  obtain ⟨y, e, rfl⟩ := e
  refine ⟨by show 2 ≤ sizeLine; decide, fun p np => ?_⟩
  have s2 : Same H1 (upd H1 p (.tup [.ty b.nm, .ty c.nm])) := same_upd np
  refine ⟨v, p, [.ty b.nm, .ty c.nm], .type y.nm, [.type b.nm, .type c.nm], isTy y b || isTy y c, rfl, upd_same, .cons (.ty _) (.cons (.ty _) .nil), tyx_of (R1.fh.trans s2) r1 e, ?_, q _ F1 _ (R1.grow s2) s1 rfl⟩
  refine kitAny_cons (kit_ty (isTy_ok y b)) (fun eb => ?_) (fun eb => by rw [eb]; rfl)
  rw [eb, Bool.false_or]
  refine kitAny_cons (kit_ty (isTy_ok y c)) (fun ec => by rw [ec]; exact kitAny_nil) (fun ec => ec)
/-! ### slices -/
end

/-! ### what a def is worth -/
/-- a def as a function upon trees (of a result the state means nothing) -/
abbrev Sg := List T → Res T
def spF (K : PySem.W.Frag) (mg : Str → Option Value) (g : Sg) : Sp := fun vs H Q E => ∃ B F ts, Same F H ∧ Same B H ∧ Tb K mg F B H ∧ Reps K mg F ts vs ∧
  Den (g ts) (fun t _ => ∀ v F' H', Same F' H' → Same B H' → Tb K mg F' B H' → Same F F' → (∀ a o, F' a = some o → (∃ u, F a = some u) ∨ NB B a o) → Rep K mg F' t v → Q v H') (XOk K mg ⟨B, F, none, []⟩ E)
def outF (r : Res Fl) : Res T := match r with
  | .bad => .bad
  | .exc e => .exc e
  | .ok (.rt t) _ => .ok t []
  | .ok .nx _ => .ok .non []
  | .ok _ _ => .bad
/-- of a body: n names, m parameters -/
def fnF (n m : Nat) (fb : MS) : Sg := fun ts => if ts.length = m ∧ m ≤ n then outF (fb (ts.map SV.fz ++ List.replicate (n - m) SV.un)) else .bad
structure Known (P : Program) (w : World) (K : PySem.W.Frag) (mg : Str → Option Value) (base : Heap) (k : Nat) (nm : Str) (g : Sg) : Prop where
  ok : ∃ (f : Addr) (fd : FuncData) (ps : List Str), mg nm = some (.ref f) ∧ PySem.W.keepIn K (.ref f) = true ∧ Binds K fd ps [] ∧ FnOk P w K mg base (L2.CX P w) k f fd ps (spF K mg g)
theorem Known.mono {P : Program} {w : World} {K : PySem.W.Frag} {mg : Str → Option Value} {base : Heap} {j k : Nat} {nm : Str} {g : Sg} (h : Known P w K mg base j nm g) (l : j ≤ k) : Known P w K mg base k nm g := by
  obtain ⟨f, fd, ps, a, b, c, d⟩ := h.ok
  exact ⟨f, fd, ps, a, b, c, d.mono l⟩
section
variable {P : Program} {w : World} {K : PySem.W.Frag} {mg : Str → Option Value} {base : Heap}
theorem Den.ne {α : Type} {r : Res α} {p : α → Env → Prop} {x : Ex → Prop} (h : Den r p x) : r ≠ .bad := fun e => by rw [e] at h; exact h
theorem start_slots {B F : Hp} {H : Hp} {N : List Str} {ts : List T} {vs : List V} (s : Same F H) (b : Same B H) (tb : Tb K mg F B H) (r : Reps K mg F ts vs) (hl : ts.length ≤ N.length) : RS K mg B F none rw F (ts.map SV.fz ++ List.replicate (N.length - ts.length) SV.un) (L2.start N vs) H := by
  have lv := r.length
  refine ⟨?_, s, b, Same.refl _, fun a o e => .inl ⟨o, e⟩, (fun a e => nomatch e), tb, fun _ => 0, fun i x hx => ?_, fun i j x y hx _ ox _ _ => ?_⟩
  · unfold L2.start
    simp only [List.length_append, List.length_map, List.length_replicate]
    omega
  · by_cases hi : i < ts.length
    · rw [List.getElem?_append_left (by simpa using hi), List.getElem?_map, List.getElem?_eq_getElem hi] at hx
      cases hx
      obtain ⟨v, h1, h2⟩ := r.get (List.getElem?_eq_getElem hi)
      refine ⟨v, ?_, h2⟩
      unfold L2.start
      rw [List.getElem?_append_left (by simp; omega), List.getElem?_map, h1]
      rfl
    · rw [List.getElem?_append_right (by simpa using hi), List.getElem?_replicate] at hx
      split at hx
      · cases hx; trivial
      · cases hx
  · exfalso
    by_cases hi : i < ts.length
    · rw [List.getElem?_append_left (by simpa using hi), List.getElem?_map, List.getElem?_eq_getElem hi] at hx
      cases hx; cases ox
    · rw [List.getElem?_append_right (by simpa using hi), List.getElem?_replicate] at hx
      split at hx
      · cases hx; cases ox
      · cases hx
/-- a def by its body -/
theorem fn_ok {x qual : Str} {st : Stmt} {f : Addr} {fd : FuncData} {N ps : List Str} {k : Nat} {fb : MS} (F : Fun K x qual st f fd) (S : FnScope N ps (defScope st))
    (hb : ∀ (cdv : Value) (A : Around) (outer : List PySem.Env) (s : Shared) (H : Hp) (E : XK), Room k (A.deeper (PyProof.Rows.envOfC qual (defScope st) s.heap.objs.size f cdv)) → FSs (cxOf (L2.CX P w) P w K mg base N qual (defScope st) f cdv A outer s H E) E (defBody st) fb) :
    FnOk P w K mg base (L2.CX P w) (k + 1) f fd ps (spF K mg (fnF N.length ps.length fb)) := by
  refine F.okX S (fun vs H Q E h => ?_) (fun cdv A outer s H vs Q E hr h => ?_)
  · obtain ⟨B, F, ts, _, _, _, r, d⟩ := h
    unfold fnF at d
    split at d
    · rename_i hl
      rw [← r.length]; exact hl.1
    · exact d.elim
  · obtain ⟨B, F', ts, sF, sB, tb, r, d⟩ := h
    refine ⟨_, hb cdv A outer s H E hr, ⟨B, F', none, []⟩, F', ts.map SV.fz ++ List.replicate (N.length - ps.length) SV.un, ?_, ?_⟩
    · unfold fnF at d
      split at d
      · rename_i hl
        have q := start_slots (rw := []) (N := N) sF sB tb r (by omega)
        rw [hl.1] at q
        exact q
      · exact d.elim
    · unfold fnF at d
      split at d
      · cases e : fb (ts.map SV.fz ++ List.replicate (N.length - ps.length) SV.un) with
        | bad => rw [e] at d; exact d
        | exc x => rw [e] at d; exact d
        | ok fl ρ =>
          rw [e] at d
          cases fl with
          | nx => exact fun σ' F2 H' R s' => d .non F2 H' R.fh R.bh R.tb s' (fun a o q => R.fr a o q) rfl
          | bk => exact d.elim
          | ct => exact d.elim
          | rt t => exact fun v σ' F2 H' R s' rv => d v F2 H' R.fh R.bh R.tb s' (fun a o q => R.fr a o q) rv
      · exact d.elim
end
/-- a call of a def -/
def calU (g : Sg) (fs : M (List T)) : M T := fun ρ => (fs ρ).bind fun ts ρ => match g ts with
  | .bad => .bad
  | .exc e => .exc e
  | .ok t _ => .ok t ρ
section
variable {X : Cx} {E : XK} {e : Expr} {es : List Expr} {pos p : Pos} {fs : M (List T)} {x : Str} {g : Sg}
theorem XOk.mono {K : PySem.W.Frag} {mg : Str → Option Value} {k k' : Bk} {x : Ex} (s : ∀ H, Lv K mg k' H → Lv K mg k H) (h : XOk K mg k E x) : XOk K mg k' E x := by
  obtain ⟨c, a⟩ := x
  cases a with
  | none => exact fun C H' m s' => h C H' m (s _ s')
  | some a => exact fun C d v F' H' m s' => h C d v F' H' m (s _ s')
/-- a heap without the law's tables -/
noncomputable def hideTab (K : PySem.W.Frag) (mg : Str → Option Value) (H : Hp) : Hp := fun b => by classical exact if LawTab K mg b then none else H b
section
variable {K : PySem.W.Frag} {mg : Str → Option Value} {F B H H' : Hp} {b : Addr} {u : HO}
theorem hideTab_tab (h : LawTab K mg b) : hideTab K mg H b = none := by unfold hideTab; exact if_pos h
theorem hideTab_ne (h : ¬ LawTab K mg b) : hideTab K mg H b = H b := by unfold hideTab; exact if_neg h
theorem hideTab_same : Same (hideTab K mg H) H := fun b u e => by
  by_cases h : LawTab K mg b
  · rw [hideTab_tab h] at e; cases e
  · rwa [hideTab_ne h] at e
theorem hideTab_none (h : hideTab K mg H b = none) : H b = none ∨ LawTab K mg b := by
  by_cases q : LawTab K mg b
  · exact .inr q
  · rw [hideTab_ne q] at h; exact .inl h
theorem hideTab_keep (s : Same (hideTab K mg H) H') (n : ¬ LawTab K mg b) (e : H b = some u) : H' b = some u := s _ _ (by rw [hideTab_ne n]; exact e)
theorem Tb.not (t : Tb K mg F B H) (e : B b = some u) : ¬ LawTab K mg b := fun q => by rw [t.b b q] at e; cases e
theorem Tb.notH {h : HO} (t : Tb K mg F B H) (e : H b = some h) (p : plainO h) : ¬ LawTab K mg b := fun q => t.x.ne e p q rfl
theorem Tb.hidden (t : Tb K mg F B H) : Tb K mg F (hideTab K mg H) H := ⟨t.x, t.f, fun P q => hideTab_tab q⟩
end
/-- behind a call of a def that changes nothing -/
theorem RS.called {K : PySem.W.Frag} {mg : Str → Option Value} {B F0 F F' : Hp} {pm : Option Addr} {ρ : Env} {σ : L2.St} {H H' : Hp} (R : RS K mg B F0 pm rw F ρ σ H) (s1 : Same F' H') (s2 : Same (hideTab K mg H) H') (tb : Tb K mg F' (hideTab K mg H) H') (s3 : Same F F') (fr : ∀ a o, F' a = some o → (∃ u, F a = some u) ∨ NB (hideTab K mg H) a o) : RS K mg B F0 pm rw F' ρ σ H' := by
  obtain ⟨α, h1, h2⟩ := R.ex
  have far : ∀ a h, (∀ vs, h ≠ .tup vs) → H a = some h → F a = none → F' a = none := fun a h nt e n => by
    cases q : F' a with
    | none => rfl
    | some u =>
      rcases fr a u q with ⟨w, e'⟩ | e'
      · rw [n] at e'; cases e'
      · rcases e' with e' | ⟨vs, rfl⟩
        · rcases hideTab_none e' with z | z
          · rw [e] at z; cases z
          · rw [tb.f a z] at q; cases q
        · exact (nt vs (Option.some.inj ((hideTab_keep s2 (fun z => by rw [tb.f a z] at q; cases q) e).symm.trans (s1 _ _ q)))).elim
  refine ⟨R.len, s1, fun a u e => hideTab_keep s2 (R.tb.not e) (R.bh _ _ e), R.f0.trans s3, fun a o e => ?_, fun a e => ?_, ⟨tb.x, tb.f, R.tb.b⟩, α, fun j y hy => ?_, h2⟩
  · rcases fr a o e with ⟨u, q⟩ | q
    · rcases R.fr a u q with z | z | ⟨vs, rfl⟩
      · exact .inl z
      · exact .inr (.inl z)
      · exact .inr (.inr ⟨vs, Option.some.inj ((s1 _ _ e).symm.trans (s1 _ _ (s3 _ _ q)))⟩)
    · rcases q with q | q
      · rcases hideTab_none q with z | z
        · exact .inr (.inl (R.bnone z))
        · rw [tb.f a z] at e; cases e
      · exact .inr (.inr q)
  · obtain ⟨o, q⟩ := R.pt a e
    by_cases z : LawTab K mg a
    · obtain ⟨ps, z1, _⟩ := tb.x a z
      exact ⟨_, z1⟩
    · exact ⟨o, hideTab_keep s2 z q⟩
  · have q := h1 j y hy
    cases y with
    | un => trivial
    | fz t => obtain ⟨v, a, b⟩ := q; exact ⟨v, a, b.mono s3⟩
    | raw n => obtain ⟨v, a, b⟩ := q; exact ⟨v, a, b⟩
    | ow o => obtain ⟨a, b, c, d, u, e1, e2⟩ := q; exact ⟨a, far _ _ e2.ntup e1 b, c, d, u, hideTab_keep s2 (R.tb.notH e1 e2.plain) e1, e2.mono s3⟩
    | pa o => obtain ⟨a, b, c, d, u, e1, e2⟩ := q; exact ⟨a, far _ _ e2.ntup e1 b, c, d, u, hideTab_keep s2 (R.tb.notH e1 e2.plain) e1, e2.mono s3⟩
/-- the exceptions that a callee lets out are let out by the caller -/
theorem RS.lv {K : PySem.W.Frag} {mg : Str → Option Value} {k : Bk} {F : Hp} {ρ : Env} {σ : L2.St} {H : Hp} (R : RS K mg k.B k.F0 k.pm k.rw F ρ σ H) (H' : Hp) (l : Lv K mg ⟨hideTab K mg H, F, none, []⟩ H') : Lv K mg k H' := by
  refine ⟨fun a u e => hideTab_keep l.1 (R.tb.not e) (R.bh _ _ e), R.f0.trans l.2.1, fun a e => ?_, l.2.2.2⟩
  obtain ⟨o, q⟩ := R.pt a e
  by_cases z : LawTab K mg a
  · obtain ⟨ps, z1, _⟩ := l.2.2.2 a z
    exact ⟨_, z1⟩
  · exact ⟨o, hideTab_keep l.1 z q⟩
theorem fe_call {k : Nat} (Kn : Known X.prog X.w X.K X.mg X.base k x g) (hr : Room k X.A) (hg : Gl X x) (hx : Passes (L2.CX X.prog X.w) X E) (ha : FA X E (e :: es) fs) (hdb : (x == ("__debug__" : Str)) = false := by decide)
    (he : starEach (e :: es) X.env = (false, eval e X.env) :: starEach es X.env := by rfl) (hpl : (backTo pos (starEach es X.env)).any (·.1) = false := by rfl) : FE X E (.Call (.Name x p) (e :: es) [] pos) (calU g fs) := by
  obtain ⟨f, fd, ps, hm, hk, hb, F⟩ := Kn.ok
  refine pe_imp (pe_call F hr hg hm hk hb .nil hx ha hdb he hpl) fun σ H Q h => ?_
  obtain ⟨kk, F, ρ, R, h⟩ := h
  refine ⟨kk, F, ρ, R, (Den.bind h).imp fun ts ρ1 h1 vs F1 H1 R1 s1 r1 => ?_⟩
  show spF X.K X.mg g (vs ++ []) H1 Q E
  rw [List.append_nil]
  refine ⟨hideTab X.K X.mg H1, F1, ts, R1.fh, hideTab_same, R1.tb.hidden, r1, ?_⟩
  cases eg : g ts with
  | bad => rw [eg] at h1; exact h1
  | exc x => rw [eg] at h1; exact XOk.mono (fun H' l => R1.lv H' l) h1
  | ok t ρx =>
    rw [eg] at h1
    exact fun v F' H' a b t c d r => h1 v F' H' (R1.called a b t c d) (s1.trans c) r
end
end FL

/-! FL8: defs that change an object that the caller lends; the law's end. -/
namespace FL
open PySem PySem.Spec L2

abbrev SgM := O → List T → Res (T × O)
def spM (K : PySem.W.Frag) (mg : Str → Option Value) (g : SgM) : Sp := fun vs H Q E => ∃ B F a h o ws ts, vs = .ref a :: ws ∧ Same F H ∧ Same B H ∧ Tb K mg F B H ∧ F a = none ∧ B a = none ∧ H a = some h ∧ ORep K mg F o h ∧ Reps K mg F ts ws ∧
  Den (g o ts) (fun r _ => ∀ v F' H' h', Same F' H' → Same B H' → Tb K mg F' B H' → Same F F' → (∀ b u, F' b = some u → (∃ u, F b = some u) ∨ NB B b u) → F' a = none → H' a = some h' → ORep K mg F' r.2 h' → Rep K mg F' r.1 v → Q v H') (fun _ => False)
def lent (ρ : Env) : Option O := match ρ with
  | .pa o :: _ => some o
  | _ => none
theorem lent_some {ρ : Env} {o : O} (h : lent ρ = some o) : ρ[0]? = some (.pa o) := by
  unfold lent at h
  split at h
  · cases h; rfl
  · cases h
def outV (t : T) (ρ : Env) : Res (T × O) := match lent ρ with
  | some o => .ok (t, o) []
  | none => .bad
def outM (r : Res Fl) : Res (T × O) := match r with
  | .ok (.rt t) ρ => outV t ρ
  | .ok .nx ρ => outV .non ρ
  | _ => .bad
def fnM (n m : Nat) (fb : MS) : SgM := fun o ts => if ts.length + 1 = m ∧ m ≤ n then outM (fb (SV.pa o :: (ts.map SV.fz ++ List.replicate (n - m) SV.un))) else .bad
structure KnownM (P : Program) (w : World) (K : PySem.W.Frag) (mg : Str → Option Value) (base : Heap) (k : Nat) (nm : Str) (g : SgM) : Prop where
  ok : ∃ (f : Addr) (fd : FuncData) (ps : List Str), mg nm = some (.ref f) ∧ PySem.W.keepIn K (.ref f) = true ∧ Binds K fd ps [] ∧ FnOk P w K mg base (L2.CX P w) k f fd ps (spM K mg g)
theorem KnownM.mono {P : Program} {w : World} {K : PySem.W.Frag} {mg : Str → Option Value} {base : Heap} {j k : Nat} {nm : Str} {g : SgM} (h : KnownM P w K mg base j nm g) (l : j ≤ k) : KnownM P w K mg base k nm g := by
  obtain ⟨f, fd, ps, a, b, c, d⟩ := h.ok
  exact ⟨f, fd, ps, a, b, c, d.mono l⟩
section
variable {P : Program} {w : World} {K : PySem.W.Frag} {mg : Str → Option Value} {base : Heap}
theorem start_slotsM {B F : Hp} {H : Hp} {N : List Str} {ts : List T} {vs : List V} {a : Addr} {o : O} {h : HO} (s : Same F H) (b : Same B H) (tb : Tb K mg F B H) (fa : F a = none) (ba : B a = none) (ha : H a = some h) (ro : ORep K mg F o h) (r : Reps K mg F ts vs) (hl : ts.length + 1 ≤ N.length) :
    RS K mg B F (some a) rw F (SV.pa o :: (ts.map SV.fz ++ List.replicate (N.length - (ts.length + 1)) SV.un)) (L2.start N (.ref a :: vs)) H := by
  have lv := r.length
  have src : ∀ (i : Nat) (x : SV), (SV.pa o :: (ts.map SV.fz ++ List.replicate (N.length - (ts.length + 1)) SV.un))[i]? = some x → (i = 0 ∧ x = .pa o) ∨ x = .un ∨ ∃ t j, x = .fz t ∧ i = j + 1 ∧ ts[j]? = some t := fun i x hx => by
    cases i with
    | zero => exact .inl ⟨rfl, (Option.some.inj hx).symm⟩
    | succ i =>
      rw [List.getElem?_cons_succ] at hx
      by_cases hi : i < ts.length
      · rw [List.getElem?_append_left (by simpa using hi), List.getElem?_map, List.getElem?_eq_getElem hi] at hx
        cases hx
        exact .inr (.inr ⟨_, i, rfl, rfl, List.getElem?_eq_getElem hi⟩)
      · rw [List.getElem?_append_right (by simpa using hi), List.getElem?_replicate] at hx
        split at hx
        · cases hx; exact .inr (.inl rfl)
        · cases hx
  refine ⟨?_, s, b, Same.refl _, fun a o e => .inl ⟨o, e⟩, fun a' e => by cases e; exact ⟨h, ha⟩, tb, fun _ => a, fun i x hx => ?_, fun i j x y hx hy ox oy ne => ?_⟩
  · unfold L2.start
    simp only [List.length_append, List.length_map, List.length_replicate, List.length_cons]
    omega
  · rcases src i x hx with ⟨e, e'⟩ | e | ⟨t, j, e, e1, e2⟩
    · subst e e'
      exact ⟨rfl, fa, ba, rfl, h, ha, ro⟩
    · subst e; trivial
    · subst e e1
      obtain ⟨v, h1, h2⟩ := r.get e2
      refine ⟨v, ?_, h2⟩
      unfold L2.start
      have hj := (List.getElem?_eq_some_iff.mp e2).1
      rw [List.getElem?_append_left (by simp; omega), List.map_cons, List.getElem?_cons_succ, List.getElem?_map, h1]
      rfl
  · exfalso
    rcases src i x hx with ⟨e, e'⟩ | e | ⟨t, _, e, _⟩
    · rcases src j y hy with ⟨e2, _⟩ | e2 | ⟨t, _, e2, _⟩
      · exact ne (e.trans e2.symm)
      · subst e2; cases oy
      · subst e2; cases oy
    · subst e; cases ox
    · subst e; cases ox
/-- a def that changes its first argument, by its body -/
theorem fm_ok {x qual : Str} {st : Stmt} {f : Addr} {fd : FuncData} {N ps : List Str} {k : Nat} {fb : MS} (F : Fun K x qual st f fd) (S : FnScope N ps (defScope st))
    (hb : ∀ (cdv : Value) (A : Around) (outer : List PySem.Env) (s : Shared) (H : Hp) (E : XK), Room k (A.deeper (PyProof.Rows.envOfC qual (defScope st) s.heap.objs.size f cdv)) → FSs (cxOf (L2.CX P w) P w K mg base N qual (defScope st) f cdv A outer s H E) E0 (defBody st) fb) :
    FnOk P w K mg base (L2.CX P w) (k + 1) f fd ps (spM K mg (fnM N.length ps.length fb)) := by
  refine F.okX S (fun vs H Q E h => ?_) (fun cdv A outer s H vs Q E hr h => ?_)
  · obtain ⟨B, F, a, h, o, ws, ts, rfl, _, _, _, _, _, _, _, r, d⟩ := h
    unfold fnM at d
    split at d
    · rename_i hl
      rw [List.length_cons, ← r.length]; exact hl.1
    · exact d.elim
  · obtain ⟨B, F', a, h, o, ws, ts, rfl, sF, sB, tb, fa, ba, ha, ro, r, d⟩ := h
    unfold fnM at d
    split at d
    · rename_i hl
      refine ⟨_, hb cdv A outer s H E hr, ⟨B, F', some a, []⟩, F', _, start_slotsM (N := N) sF sB tb fa ba ha ro r (by omega), ?_⟩
      rw [hl.1]
      cases e : fb (SV.pa o :: (ts.map SV.fz ++ List.replicate (N.length - ps.length) SV.un)) with
      | bad => rw [e] at d; exact d
      | exc x => rw [e] at d; exact (show False from d).elim
      | ok fl ρ =>
        rw [e] at d
        have fin : ∀ {σ' : L2.St} {F2 H' : Hp} {o' : O}, RS K mg B F' (some a) [] F2 ρ σ' H' → ρ[0]? = some (.pa o') → ∃ h', F2 a = none ∧ H' a = some h' ∧ ORep K mg F2 o' h' := fun {σ' F2 H' o'} R e0 => by
          obtain ⟨α, h1, _⟩ := R.ex
          obtain ⟨_, b, _, d, u, e1, e2⟩ := h1 0 _ e0
          have ea : a = α 0 := Option.some.inj d
          rw [← ea] at b e1
          exact ⟨u, b, e1, e2⟩
        cases fl with
        | nx =>
          have d' : Den (outV .non ρ) _ _ := d
          unfold outV at d'
          split at d'
          · rename_i o' e0
            intro σ' F2 H' R s'
            obtain ⟨h', g1, g2, g3⟩ := fin R (lent_some e0)
            exact d' .non F2 H' h' R.fh R.bh R.tb s' (fun a o q => R.fr a o q) g1 g2 g3 rfl
          · exact d'.elim
        | bk => exact (show False from d).elim
        | ct => exact (show False from d).elim
        | rt t =>
          have d' : Den (outV t ρ) _ _ := d
          unfold outV at d'
          split at d'
          · rename_i o' e0
            intro v σ' F2 H' R s' rv
            obtain ⟨h', g1, g2, g3⟩ := fin R (lent_some e0)
            exact d' v F2 H' h' R.fh R.bh R.tb s' (fun a o q => R.fr a o q) g1 g2 g3 rv
          · exact d'.elim
    · exact d.elim
end
/-- a call f(x, ..) of a def that changes what x holds -/
def calM (g : SgM) (i : Nat) (fs : M (List T)) : M T := withOwn i fun ρ => (fs ρ).bind fun ts ρ => match rdOwn i ρ with
  | some o => match g o ts with
    | .ok (t, o') _ => .ok t (setOwn i o' ρ)
    | _ => .bad
  | none => .bad
section
variable {X : Cx} {E : XK} {e : Expr} {es : List Expr} {pos p p2 : Pos} {fs : M (List T)} {x y : Str} {g : SgM} {i : Nat}
theorem RS.calledM {K : PySem.W.Frag} {mg : Str → Option Value} {B F0 F F' : Hp} {pm : Option Addr} {ρ : Env} {σ : L2.St} {H H' : Hp} {a : Addr} {o o' : O} {h' : HO} (R : RS K mg B F0 pm rw F ρ σ H) (ho : rdOwn i ρ = some o) (es : σ[i]? = some (some (.ref a)))
    (s1 : Same F' H') (s2' : ∀ b u, b ≠ a → hideTab K mg H b = some u → H' b = some u) (tx : TabX K mg H') (tf : ∀ P, LawTab K mg P → F' P = none) (s3 : Same F F') (fr' : ∀ b u, F' b = some u → (∃ u, F b = some u) ∨ NB (hideTab K mg H) b u ∨ b = a) (fa : F' a = none) (ha : H' a = some h') (ro : ORep K mg F' o' h') : RS K mg B F0 pm rw F' (setOwn i o' ρ) σ H' := by
  have fr : ∀ b u, F' b = some u → (∃ u, F b = some u) ∨ NB H b u ∨ b = a := fun b u e => by
    rcases fr' b u e with q | q | q
    · exact .inl q
    · rcases q with q | q
      · rcases hideTab_none q with z | z
        · exact .inr (.inl (.inl z))
        · rw [tf b z] at e; cases e
      · exact .inr (.inl (.inr q))
    · exact .inr (.inr q)
  have s2 : ∀ b u, b ≠ a → ¬ LawTab K mg b → H b = some u → H' b = some u := fun b u n z e => s2' b u n (by rw [hideTab_ne z]; exact e)
  obtain ⟨α, h1, h2⟩ := R.ex
  unfold rdOwn at ho
  rw [Option.bind_eq_some_iff] at ho
  obtain ⟨x, hx, hox⟩ := ho
  have ox : x.owned = true := by rcases obj_cases hox with e | e <;> subst e <;> rfl
  have q : σ[i]? = some (some (.ref (α i))) ∧ F (α i) = none ∧ B (α i) = none ∧ ∃ h, H (α i) = some h := by
    have q := h1 i x hx
    rcases obj_cases hox with e | e
    · subst e; obtain ⟨a, b, c, d, h, e, _⟩ := q; exact ⟨a, b, c, h, e⟩
    · subst e; obtain ⟨a, b, c, d, h, e, _⟩ := q; exact ⟨a, b, c, h, e⟩
  have ea : a = α i := by
    rw [q.1] at es
    cases es; rfl
  subst ea
  have hlt : i < ρ.length := (List.getElem?_eq_some_iff.mp hx).1
  unfold setOwn
  rw [hx]
  have far : ∀ b h, (∀ vs, h ≠ .tup vs) → b ≠ α i → H b = some h → F b = none → F' b = none := fun b h nt ne e n => by
    cases q : F' b with
    | none => rfl
    | some u =>
      rcases fr b u q with ⟨w, e'⟩ | e' | e'
      · rw [n] at e'; cases e'
      · rcases e' with e' | ⟨vs, rfl⟩
        · rw [e] at e'; cases e'
        · exact (nt vs (Option.some.inj ((s2 b h ne (fun z => by rw [tf b z] at q; cases q) e).symm.trans (s1 _ _ q)))).elim
      · exact absurd e' ne
  have src : ∀ (j : Nat) (y : SV), (ρ.set i (x.to o'))[j]? = some y → (j = i ∧ y = x.to o') ∨ (j ≠ i ∧ ρ[j]? = some y) := fun j y hy => by
    by_cases e : j = i
    · subst e
      rw [List.getElem?_set_self hlt] at hy
      exact .inl ⟨rfl, (Option.some.inj hy).symm⟩
    · rw [List.getElem?_set_ne (Ne.symm e)] at hy
      exact .inr ⟨e, hy⟩
  refine ⟨by simpa using R.len, s1, fun b u e => s2 b u (ne_of_none e q.2.2.1) (R.tb.not e) (R.bh _ _ e), R.f0.trans s3, fun b u e => ?_, fun b e => ?_, ⟨tx, tf, R.tb.b⟩, α, fun j y hy => ?_, fun j m y z hy hz oy oz ne => ?_⟩
  · rcases fr b u e with ⟨w, q'⟩ | q' | q'
    · rcases R.fr b w q' with z | z | ⟨vs, rfl⟩
      · exact .inl z
      · exact .inr (.inl z)
      · exact .inr (.inr ⟨vs, Option.some.inj ((s1 _ _ e).symm.trans (s1 _ _ (s3 _ _ q')))⟩)
    · exact .inr (q'.imp R.bnone id)
    · subst q'; rw [fa] at e; cases e
  · obtain ⟨u, e'⟩ := R.pt b e
    by_cases hb : b = α i
    · subst hb; exact ⟨h', ha⟩
    · by_cases z : LawTab K mg b
      · obtain ⟨ps, z1, _⟩ := tx b z
        exact ⟨_, z1⟩
      · exact ⟨u, s2 b u hb z e'⟩
  · rcases src j y hy with ⟨e, ey⟩ | ⟨ne, e⟩
    · subst e
      have q' := h1 j x hx
      rcases obj_cases hox with e | e
      · subst e
        have ey' : y = .ow o' := ey
        subst ey'
        obtain ⟨a, b, c, d, _⟩ := q'
        exact ⟨a, fa, c, d, h', ha, ro⟩
      · subst e
        have ey' : y = .pa o' := ey
        subst ey'
        obtain ⟨a, b, c, d, _⟩ := q'
        exact ⟨a, fa, c, d, h', ha, ro⟩
    · have q' := h1 j y e
      cases y with
      | un => trivial
      | fz t => obtain ⟨v, a, b⟩ := q'; exact ⟨v, a, b.mono s3⟩
      | raw n => obtain ⟨v, a, b⟩ := q'; exact ⟨v, a, b⟩
      | ow o1 =>
        obtain ⟨a, b, c, d, u, e1, e2⟩ := q'
        have na := h2 j i _ x e hx rfl ox ne
        exact ⟨a, far _ _ e2.ntup na e1 b, c, d, u, s2 _ _ na (R.tb.notH e1 e2.plain) e1, e2.mono s3⟩
      | pa o1 =>
        obtain ⟨a, b, c, d, u, e1, e2⟩ := q'
        have na := h2 j i _ x e hx rfl ox ne
        exact ⟨a, far _ _ e2.ntup na e1 b, c, d, u, s2 _ _ na (R.tb.notH e1 e2.plain) e1, e2.mono s3⟩
  · have back : ∀ (n : Nat) (w : SV), (ρ.set i (x.to o'))[n]? = some w → w.owned = true → ∃ z : SV, ρ[n]? = some z ∧ z.owned = true := fun n w hn ow => by
      rcases src n w hn with ⟨e, _⟩ | ⟨_, e⟩
      · subst e; exact ⟨x, hx, ox⟩
      · exact ⟨w, e, ow⟩
    obtain ⟨y', hy', oy'⟩ := back j y hy oy
    obtain ⟨z', hz', oz'⟩ := back m z hz oz
    exact h2 j m y' z' hy' hz' oy' oz' ne
theorem fe_callM {k : Nat} (Kn : KnownM X.prog X.w X.K X.mg X.base k y g) (hr : Room k X.A) (hg : Gl X y) (hxx : Passes (L2.CX X.prog X.w) X E0) (hN : X.N[i]? = some x := by rfl) (ha : FA X E es fs)
    (hv : Vis X.env.scope x := by first | exact Or.inl rfl | exact Or.inr (Or.inl rfl) | exact Or.inr (Or.inr rfl)) (hd : (x == ("__debug__" : Str)) = false := by decide) (hcd : (x == ("__classdict__" : Str)) = false := by decide) (hdb : (y == ("__debug__" : Str)) = false := by decide)
    (he : starEach (.Name x p2 :: es) X.env = (false, eval (.Name x p2) X.env) :: starEach es X.env := by rfl) (hpl : (backTo pos (starEach es X.env)).any (·.1) = false := by rfl) : FE X E (.Call (.Name y p) (.Name x p2 :: es) [] pos) (calM g i fs) := by
  obtain ⟨f, fd, ps, hm, hk, hb, F⟩ := Kn.ok
  refine pe_imp (pe_call F hr hg hm hk hb .nil hxx (pa_cons (pe_var hN hv hd hcd) ha he) hdb he hpl) fun σ H Q h => ?_
  obtain ⟨kk, F, ρ, R, h⟩ := h
  obtain ⟨⟨o0, ho0⟩, h⟩ := Den.own h
  obtain ⟨a, h0, es', _⟩ := R.own ho0
  refine ⟨.ref a, es', kk, F, ρ, R, (Den.bind h).imp fun ts ρ1 h1 vs F1 H1 R1 s1 r1 => ?_⟩
  show spM X.K X.mg g ((.ref a :: vs) ++ []) H1 Q E0
  rw [List.append_nil]
  split at h1
  · rename_i o ho
    obtain ⟨a1, h2, e1, e2, e3, e4, _⟩ := R1.own ho
    rw [es'] at e1
    cases e1
    refine ⟨fun b => if b = a then none else hideTab X.K X.mg H1 b, F1, a, h2, o, vs, ts, rfl, R1.fh, fun b u e => ?_, ⟨R1.tb.x, R1.tb.f, fun P z => ?_⟩, e2, by simp, e3, e4, r1, ?_⟩
    · dsimp only at e
      split at e
      · cases e
      · exact hideTab_same _ _ e
    · show (if P = a then none else hideTab X.K X.mg H1 P) = none
      split
      · rfl
      · exact hideTab_tab z
    · split at h1
      · rename_i t o' ρx eg
        rw [eg]
        exact fun v F' H' h' c1 c2 ct c3 c4 c5 c6 c7 c8 => h1 v F' H' (R1.calledM ho es' c1 (fun b u ne e => c2 b u (by show (if b = a then none else hideTab X.K X.mg H1 b) = some u; rw [if_neg ne]; exact e)) ct.x ct.f c3 (fun b u e => by
          rcases c4 b u e with q | q
          · exact .inl q
          · rcases q with q | q
            · have q' : (if b = a then none else hideTab X.K X.mg H1 b) = none := q
              split at q'
              · rename_i eb; exact .inr (.inr eb)
              · exact .inr (.inl (.inl q'))
            · exact .inr (.inl (.inr q))) c5 c6 c7) (s1.trans c3) c8
      · exact h1.elim
  · exact h1.elim
end
/-! ### the law's end -/
def spLaw (K : PySem.W.Frag) (mg : Str → Option Value) : Sp := fun vs H Q _ => ∃ (a : Addr) (ns : List Int), vs = [.ref a] ∧ SqL K H a (ns.map V.int) ∧ ns.length ≤ 63 ∧ TabX K mg H ∧ ∀ H', Q (.bl true) H'
theorem sq_hide {K : PySem.W.Frag} {mg : Str → Option Value} {H : Hp} {a : Addr} {xs : List V} (t : TabX K mg H) (h : SqL K H a xs) : SqL K (hideTab K mg H) a xs := by
  rcases h with (h | ⟨o, h⟩) | h
  · have n : ¬ LawTab K mg a := fun q => by
      obtain ⟨ps, z, _⟩ := t a q
      rw [h] at z; cases z
    exact .inl (.inl (by rw [hideTab_ne n]; exact h))
  · have n : ¬ LawTab K mg a := fun q => by
      obtain ⟨ps, z, _⟩ := t a q
      rw [h] at z; cases z
    exact .inl (.inr ⟨o, by rw [hideTab_ne n]; exact h⟩)
  · exact .inr h
theorem law_imp {P : Program} {w : World} {K : PySem.W.Frag} {mg : Str → Option Value} {base : Heap} {k : Nat} {f : Addr} {fd : FuncData} {x : Str} {g : Sg} (F : FnOk P w K mg base (L2.CX P w) k f fd [x] (spF K mg g)) (hg : ∀ ns : List Int, ns.length ≤ 63 → g [.sl (ns.map T.int)] = .ok (.bl true) []) :
    FnOk P w K mg base (L2.CX P w) k f fd [x] (spLaw K mg) := F.imp fun vs H Q E h => by
  obtain ⟨a, ns, rfl, hS, hl, tx, q⟩ := h
  refine ⟨fun _ => none, hideTab K mg H, [.sl (ns.map T.int)], hideTab_same, fun _ _ e => (nomatch e), ⟨tx, fun P z => hideTab_tab z, fun _ _ => rfl⟩, .cons ⟨a, ns.map V.int, rfl, sq_hide tx hS, Reps.of_ints⟩ .nil, ?_⟩
  rw [hg ns hl]
  intro v F' H' _ _ _ _ _ r
  have ev : v = .bl true := r
  subst ev
  exact q H'
theorem noE0 {P : Program} {w : World} {H : Hp} {s : Shared} {e : Value} {s' : Shared} (h : L2.CX P w [] H s (fun _ _ _ => False) e s') : False := by
  obtain ⟨_, _, _, _, _, _, _, _, _, _, _, _, z⟩ := h
  exact z.elim
end FL

/-! FL9: enumerate and zip over lists and tuples. -/
namespace FL
open PySem PySem.Spec L2 PyProof.Rows

def ItAt (c : Bool) (h : Heap) (it a : Addr) (i : Nat) : Prop := if c = true then h.IsListIter it a i else h.IsTupleIter it a i
def SqAt (c : Bool) (h : Heap) (a : Addr) (items : Array Value) : Prop := if c = true then h.IsList a items else h.IsTuple a items
theorem ItAt.obj {c : Bool} {h : Heap} {it a : Addr} {i : Nat} (x : ItAt c h it a i) : ∃ o, h.get? it = some o ∧ ∀ v, o.data ≠ .cell v := by
  cases c with
  | true => obtain ⟨o, e, _, d⟩ : h.IsListIter it a i := x; exact ⟨o, e, fun v q => by rw [d] at q; cases q⟩
  | false => obtain ⟨o, e, _, d⟩ : h.IsTupleIter it a i := x; exact ⟨o, e, fun v q => by rw [d] at q; cases q⟩
theorem ItAt.keep {c : Bool} {h h' : Heap} {it a : Addr} {i : Nat} (x : ItAt c h it a i) (k : ∀ o, h.get? it = some o → h'.get? it = some o) : ItAt c h' it a i := by
  cases c with
  | true => exact (show h.IsListIter it a i from x).at k
  | false => exact (show h.IsTupleIter it a i from x).at k
/-! ### enumerate(x) -/
section
open PySem (IsEnum)
open AutoSeq1 (wpAny_loadPart')
end
/-! ### zip(x, y) -/
end FL

/-! FL10: names read whatever they hold; what is walked, of either kind; op=; two clauses. -/
namespace FL
open PySem PySem.Spec L2
section
variable {X : Cx} {E : XK} {e b c : Expr} {es : List Expr} {pos p : Pos} {f fb fv : M T} {fs : M (List T)} {i : Nat} {x : Str} {g : M Bool}

/-! ### a name, whatever it holds -/
def rdA (i : Nat) : M T := fun ρ => match ρ[i]? with
  | some (.fz t) => .ok t ρ
  | some (.ow o) => .ok (frzO o) (ρ.set i (.fz (frzO o)))
  | _ => .bad
theorem fe_varA (hN : X.N[i]? = some x := by rfl) (hv : Vis X.env.scope x := by first | exact Or.inl rfl | exact Or.inr (Or.inl rfl) | exact Or.inr (Or.inr rfl)) (hd : (x == ("__debug__" : Str)) = false := by decide) (hcd : (x == ("__classdict__" : Str)) = false := by decide) : FE X E (.Name x pos) (rdA i) := by
  refine pe_imp (pe_var hN hv hd hcd) fun σ H Q h => ?_
  obtain ⟨k, F, ρ, R, h⟩ := h
  unfold rdA at h
  split at h
  · rename_i t e
    obtain ⟨v, e1, r⟩ := R.slot e
    exact ⟨v, e1, h v F H R (Same.refl _) r⟩
  · rename_i o e
    obtain ⟨a, F', es, s, r, R'⟩ := R.freeze e
    exact ⟨.ref a, es, h _ F' H R' s r⟩
  · exact h.elim
/-- what a slot holds: a tree, or an object -/
inductive Has where
  | t (x : T) | o (x : O) | no
def has (i : Nat) (ρ : Env) : Has := match ρ[i]? with
  | some (.fz t) => .t t
  | some (.ow o) => .o o
  | some (.pa o) => .o o
  | _ => .no
theorem has_t {i : Nat} {ρ : Env} {t : T} (h : has i ρ = .t t) : ρ[i]? = some (.fz t) := by
  unfold has at h
  split at h
  · rename_i t' e; cases h; exact e
  · cases h
  · cases h
  · cases h
theorem has_o {i : Nat} {ρ : Env} {o : O} (h : has i ρ = .o o) : rdOwn i ρ = some o := by
  unfold has at h
  split at h
  · cases h
  · rename_i o' e; cases h; unfold rdOwn; rw [e]; rfl
  · rename_i o' e; cases h; unfold rdOwn; rw [e]; rfl
  · cases h
def isHas (h : Has) : Bool := match h with
  | .no => false
  | _ => true
theorem has_slot {k : Bk} {F : Hp} {ρ : Env} {σ : L2.St} {H : Hp} (R : RSk X k F ρ σ H) (h : isHas (has i ρ) = true) : ∃ v, σ[i]? = some (some v) := by
  cases e : has i ρ with
  | t t => obtain ⟨v, q, _⟩ := R.slot (has_t e); exact ⟨v, q⟩
  | o o => obtain ⟨a, h, q, _⟩ := R.own (has_o e); exact ⟨_, q⟩
  | no => rw [e] at h; cases h
/-- x[e] -/
def ixA (i : Nat) (f : M T) : M T := fun ρ => if isHas (has i ρ) = true then (f ρ).bind fun y ρ => match has i ρ with
  | .t t => liftO (ixO t y) ρ
  | .o (.l ts) => match y with
    | .int j => liftO (atT ts j) ρ
    | _ => .bad
  | _ => .bad else .bad
theorem fe_ixA (hN : X.N[i]? = some x := by rfl) (hb : FE X E b fb) (hv : Vis X.env.scope x := by first | exact Or.inl rfl | exact Or.inr (Or.inl rfl) | exact Or.inr (Or.inr rfl)) (hs : PlainIx b := by intro _ _; rfl) (hd : (x == ("__debug__" : Str)) = false := by decide) (hcd : (x == ("__classdict__" : Str)) = false := by decide) :
    FE X E (.Subscript (.Name x p) b pos) (ixA i fb) := by
  refine pe_imp (pe_ix ix_seq (pe_var hN hv hd hcd) hb hs) fun σ H Q h => ?_
  obtain ⟨k, F, ρ, R, h⟩ := h
  unfold ixA at h
  split at h
  · rename_i hh
    obtain ⟨v, ev⟩ := has_slot R hh
    refine ⟨v, ev, k, F, ρ, R, (Den.bind h).imp fun y ρ1 h1 w F1 H1 R1 s1 r1 => ?_⟩
    split at h1
    · rename_i t e
      obtain ⟨t', e', q⟩ := Den.lift h1
      obtain ⟨v', ev', rv⟩ := R1.slot (has_t e)
      rw [ev] at ev'
      cases ev'
      exact ot_ix k F1 ρ1 σ H1 Q t y t' v w R1 rv r1 e' fun v' F' H' R' s' r' => q v' F' H' R' (s1.trans s') r'
    · rename_i ts e
      split at h1
      · rename_i j
        obtain ⟨t', e', q⟩ := Den.lift h1
        obtain ⟨a, h2, ea, e2, e3, e4, _⟩ := R1.own (has_o e)
        rw [ev] at ea
        cases ea
        obtain ⟨vs, rfl, rv⟩ := e4
        obtain ⟨w', g1, g2⟩ := atT_rep rv e'
        exact .inl ⟨a, vs, j, w', rfl, r1, SqL.of e3, g1, q _ F1 H1 R1 s1 g2⟩
      · exact h1.elim
    · exact h1.elim
  · exact h.elim
/-- len(x) -/
def lenA (i : Nat) : M T := fun ρ => match has i ρ with
  | .t t => liftO (lenO [t]) ρ
  | .o (.l ts) => .ok (.int ts.length) ρ
  | _ => .bad
theorem fe_lenA {p2 : Pos} (hg : Gl X "len") (hm : X.mg "len" = none) (hbt : bootBuiltins "len" = some (.builtin "len")) (hN : X.N[i]? = some x := by rfl) (hv : Vis X.env.scope x := by first | exact Or.inl rfl | exact Or.inr (Or.inl rfl) | exact Or.inr (Or.inr rfl)) (hd : (x == ("__debug__" : Str)) = false := by decide) (hcd : (x == ("__classdict__" : Str)) = false := by decide)
    (hst : starEach [Expr.Name x p] X.env = (false, eval (Expr.Name x p) X.env) :: starEach [] X.env := by rfl) (hpl : (backTo pos (starEach [] X.env)).any (·.1) = false := by rfl) :
    FE X E (.Call (.Name "len" p2) [.Name x p] [] pos) (lenA i) := by
  refine pe_imp (pe_callB call_len hg hm hbt (pa_cons (pe_var hN hv hd hcd) pa_nil hst) (by decide) (by decide) hst hpl) fun σ H Q h => ?_
  obtain ⟨k, F, ρ, R, h⟩ := h
  unfold lenA at h
  split at h
  · rename_i t e
    obtain ⟨t', e', q⟩ := Den.lift h
    obtain ⟨v, ev, rv⟩ := R.slot (has_t e)
    exact ⟨v, ev, ct_len k F ρ σ H Q [t] t' [v] R (.one rv) e' q⟩
  · rename_i ts e
    obtain ⟨a, h0, es, e2, e3, e4, _⟩ := R.own (has_o e)
    obtain ⟨vs, rfl, rv⟩ := e4
    exact ⟨.ref a, es, .ref a, vs.length, rfl, .inl ⟨vs, SqL.of e3, rfl⟩, h _ F H R (Same.refl _) (by rw [rv.length]; rfl)⟩
  · exact h.elim
/-! ### what is walked, a list or a tuple -/
/-! ### enumerate, zip -/
/-! ### name op= e -/
/-! ### [..] given to a name of one line, as a tree -/
end
end FL

/-! FL11: the built-ins' names. -/
namespace FL
open PySem
theorem bt_len : bootBuiltins "len" = some (.builtin "len") := by decide +kernel
theorem bt_abs : bootBuiltins "abs" = some (.builtin "abs") := by decide +kernel
theorem bt_all : bootBuiltins "all" = some (.builtin "all") := by decide +kernel
theorem bt_isinstance : bootBuiltins "isinstance" = some (.builtin "isinstance") := by decide +kernel
theorem bt_int : bootBuiltins "int" = some (.type "int") := by decide +kernel
theorem bt_bool : bootBuiltins "bool" = some (.type "bool") := by decide +kernel
theorem bt_str : bootBuiltins "str" = some (.type "str") := by decide +kernel
theorem bt_tuple : bootBuiltins "tuple" = some (.type "tuple") := by decide +kernel
theorem bt_list : bootBuiltins "list" = some (.type "list") := by decide +kernel
end FL

/-! FL12: how readings are reckoned (for simp). -/
namespace FL
open PySem
section
variable {α β : Type} {a : α} {ρ ρ' : Env} {k : α → Env → Res β} {e : Ex} {f fa fb fc g : M T} {ga gb : M Bool} {fs : M (List T)} {i j l : Nat} {s s1 s2 : MS} {o : T → T → Option T}
@[simp] theorem bind_ok : (Res.ok a ρ).bind k = k a ρ := Eq.trans rfl rfl
@[simp] theorem bind_bad : (Res.bad : Res α).bind k = .bad := Eq.trans rfl rfl
@[simp] theorem bind_exc : (Res.exc e : Res α).bind k = .exc e := Eq.trans rfl rfl
@[simp] theorem lift_some : liftO (some a) ρ = .ok a ρ := Eq.trans rfl rfl
@[simp] theorem lift_none : liftO (none : Option α) ρ = .bad := Eq.trans rfl rfl
@[simp] theorem noX_ok : noX (Res.ok a ρ) = .ok a ρ := Eq.trans rfl rfl
@[simp] theorem noX_bad : noX (Res.bad : Res α) = .bad := Eq.trans rfl rfl
@[simp] theorem rdC_e {t : T} : rdC t ρ = .ok t ρ := Eq.trans rfl rfl
@[simp] theorem op2_e : op2 o fa fb ρ = (fa ρ).bind fun x ρ => (fb ρ).bind fun y ρ => liftO (o x y) ρ := Eq.trans rfl rfl
@[simp] theorem op1_e {o : T → Option T} : op1 o fa ρ = (fa ρ).bind fun x ρ => liftO (o x) ρ := Eq.trans rfl rfl
@[simp] theorem toB_bl {b : Bool} : toB (.bl b) = some b := Eq.trans rfl rfl
@[simp] theorem tst_e : tst f ρ = (f ρ).bind fun t ρ => liftO (toB t) ρ := Eq.trans rfl rfl
@[simp] theorem truth_e : truth f ρ = (f ρ).bind fun t ρ => liftO (tru t) ρ := Eq.trans rfl rfl
@[simp] theorem tru_bl {b : Bool} : tru (.bl b) = some b := Eq.trans rfl rfl
@[simp] theorem tru_int {n : Int} : tru (.int n) = some (n != 0) := Eq.trans rfl rfl
@[simp] theorem tru_non : tru .non = some false := Eq.trans rfl rfl
@[simp] theorem tru_lst {ts : List T} : tru (.lst ts) = some (!ts.isEmpty) := Eq.trans rfl rfl
@[simp] theorem tru_tup {ts : List T} : tru (.tup ts) = some (!ts.isEmpty) := Eq.trans rfl rfl
@[simp] theorem andV_e : andV fa fb ρ = (fa ρ).bind fun t ρ => match toB t with
  | some true => fb ρ
  | some false => .ok (.bl false) ρ
  | none => .bad := Eq.trans rfl rfl
@[simp] theorem notV_e : notV fa ρ = (fa ρ).bind fun t ρ => match toB t with
  | some b => .ok (.bl (!b)) ρ
  | none => .bad := Eq.trans rfl rfl
@[simp] theorem andT_e : andT ga gb ρ = (ga ρ).bind fun b ρ => if b = true then gb ρ else .ok false ρ := Eq.trans rfl rfl
@[simp] theorem orT_e : orT ga gb ρ = (ga ρ).bind fun b ρ => if b = true then .ok true ρ else gb ρ := Eq.trans rfl rfl
@[simp] theorem notT_e : notT ga ρ = (ga ρ).bind fun b ρ => .ok (!b) ρ := Eq.trans rfl rfl
@[simp] theorem ifE_e : ifE ga fa fb ρ = (ga ρ).bind fun b ρ => if b = true then fa ρ else fb ρ := Eq.trans rfl rfl
@[simp] theorem chn_e {o o' : T → T → Option T} : chn o o' fa fb fc ρ = (fa ρ).bind fun x ρ => (fb ρ).bind fun y ρ => match (o x y).bind toB with
  | some true => (fc ρ).bind fun z ρ => liftO (o' y z) ρ
  | some false => .ok (.bl false) ρ
  | none => .bad := Eq.trans rfl rfl
@[simp] theorem rdNil_e : rdNil ρ = .ok [] ρ := Eq.trans rfl rfl
@[simp] theorem rdCons_e : rdCons f fs ρ = (f ρ).bind fun x ρ => (fs ρ).bind fun xs ρ => .ok (x :: xs) ρ := Eq.trans rfl rfl
@[simp] theorem calF_e {o : List T → Option T} : calF o fs ρ = (fs ρ).bind fun ts ρ => liftO (o ts) ρ := Eq.trans rfl rfl
@[simp] theorem calO_e {o : List T → Option O} : calO o fs ρ = (fs ρ).bind fun ts ρ => liftO (o ts) ρ := Eq.trans rfl rfl
@[simp] theorem calI_e {o : List T → Option (List T)} : calI o fs ρ = (fs ρ).bind fun ts ρ => liftO (o ts) ρ := Eq.trans rfl rfl
@[simp] theorem frzM_e {fo : M O} : frzM fo ρ = (fo ρ).bind fun o ρ => .ok (frzO o) ρ := Eq.trans rfl rfl
@[simp] theorem frzO_l {ts : List T} : frzO (.l ts) = .lst ts := Eq.trans rfl rfl
@[simp] theorem frzO_dk {ks : List L2.Key} {ts : List T} : frzO (.dk ks ts) = .dk ks ts := Eq.trans rfl rfl
@[simp] theorem asT_e : asT f ρ = (f ρ).bind fun t ρ => .ok (.tr t) ρ := Eq.trans rfl rfl
@[simp] theorem asO_e {fo : M O} : asO fo ρ = (fo ρ).bind fun o ρ => .ok (.ob o) ρ := Eq.trans rfl rfl
@[simp] theorem sv_tr {t : T} : (VO.tr t).sv = .fz t := Eq.trans rfl rfl
@[simp] theorem sv_ob {o : O} : (VO.ob o).sv = .ow o := Eq.trans rfl rfl
@[simp] theorem xsNil_e : xsNil ρ = .ok [] ρ := Eq.trans rfl rfl
@[simp] theorem xsCons_e {fx : M VO} {fxs : M (List VO)} : xsCons fx fxs ρ = (fx ρ).bind fun x ρ => (fxs ρ).bind fun xs ρ => .ok (x :: xs) ρ := Eq.trans rfl rfl
@[simp] theorem put_e {x : SV} : put i x ρ = if i < ρ.length then .ok .nx (ρ.set i x) else .bad := Eq.trans rfl rfl
@[simp] theorem sSet_e {fx : M VO} : sSet i fx ρ = (fx ρ).bind fun x ρ => put i x.sv ρ := Eq.trans rfl rfl
@[simp] theorem put2_e {x y : VO} : put2 i j [x, y] ρ = if i < ρ.length ∧ j < ρ.length then .ok .nx ((ρ.set i x.sv).set j y.sv) else .bad := Eq.trans rfl rfl
@[simp] theorem sPar_e {fxs : M (List VO)} : sPar i j fxs ρ = (fxs ρ).bind (put2 i j) := Eq.trans rfl rfl
@[simp] theorem skip_e : skip ρ = .ok .nx ρ := Eq.trans rfl rfl
@[simp] theorem bad_e : bad ρ = .bad := Eq.trans rfl rfl
@[simp] theorem sq_e {s s' : MS} : sq s s' ρ = (s ρ).bind fun fl ρ => match fl with
  | .nx => s' ρ
  | .rt t => .ok (.rt t) ρ
  | .bk => .ok .bk ρ
  | .ct => .ok .ct ρ := Eq.trans rfl rfl
@[simp] theorem sRet_e : sRet f ρ = (f ρ).bind fun t ρ => .ok (.rt t) ρ := Eq.trans rfl rfl
@[simp] theorem sIf_e : sIf ga s1 s2 ρ = (ga ρ).bind fun b ρ => if b = true then s1 ρ else s2 ρ := Eq.trans rfl rfl
@[simp] theorem sExpr_e : sExpr f ρ = (f ρ).bind fun _ ρ => .ok .nx ρ := Eq.trans rfl rfl
@[simp] theorem sFor_e {src : M (List T)} {gt : MG} : sFor src gt s ρ = (src ρ).bind fun ts ρ => forL gt s ts ρ := Eq.trans rfl rfl
@[simp] theorem sAsg_e {gt : MG} : sAsg gt f ρ = (f ρ).bind fun t ρ => match gt t ρ with
  | some ρ => .ok .nx ρ
  | none => .bad := Eq.trans rfl rfl
@[simp] theorem gN_e {t : T} : gN i t ρ = if i < ρ.length then some (ρ.set i (.fz t)) else none := Eq.trans rfl rfl
@[simp] theorem gT_e {gs : MGs} {ts : List T} : gT gs (.tup ts) ρ = gs ts ρ := Eq.trans rfl rfl
@[simp] theorem gsNil_e : gsNil [] ρ = some ρ := Eq.trans rfl rfl
@[simp] theorem gsCons_e {gt : MG} {gs : MGs} {t : T} {ts : List T} : gsCons gt gs (t :: ts) ρ = (gt t ρ).bind fun ρ => gs ts ρ := Eq.trans rfl rfl
@[simp] theorem seqT_l {ts : List T} : seqT (.lst ts) = some ts := Eq.trans rfl rfl
@[simp] theorem seqT_s {ts : List T} : seqT (.sl ts) = some ts := Eq.trans rfl rfl
@[simp] theorem seqT_t {ts : List T} : seqT (.tup ts) = some ts := Eq.trans rfl rfl
@[simp] theorem yes_e : yes ρ = .ok true ρ := Eq.trans rfl rfl
@[simp] theorem calU_e {G : Sg} : calU G fs ρ = (fs ρ).bind fun ts ρ => match G ts with
  | .bad => .bad
  | .exc e => .exc e
  | .ok t _ => .ok t ρ := Eq.trans rfl rfl
@[simp] theorem rdA_0 {x : SV} {r : Env} {t : T} : rdA 0 (.fz t :: r) = .ok t (.fz t :: r) := Eq.trans rfl rfl
theorem rdA_e : rdA i ρ = match ρ[i]? with
  | some (.fz t) => .ok t ρ
  | some (.ow o) => .ok (frzO o) (ρ.set i (.fz (frzO o)))
  | _ => .bad := Eq.trans rfl rfl
theorem has_e : has i ρ = match ρ[i]? with
  | some (.fz t) => .t t
  | some (.ow o) => .o o
  | some (.pa o) => .o o
  | _ => .no := Eq.trans rfl rfl
@[simp] theorem isHas_t {t : T} : isHas (.t t) = true := Eq.trans rfl rfl
@[simp] theorem isHas_o {o : O} : isHas (.o o) = true := Eq.trans rfl rfl
@[simp] theorem ixA_e : ixA i f ρ = if isHas (has i ρ) = true then (f ρ).bind fun y ρ => match has i ρ with
  | .t t => liftO (ixO t y) ρ
  | .o (.l ts) => match y with
    | .int j => liftO (atT ts j) ρ
    | _ => .bad
  | _ => .bad else .bad := Eq.trans rfl rfl
@[simp] theorem lenA_e : lenA i ρ = match has i ρ with
  | .t t => liftO (lenO [t]) ρ
  | .o (.l ts) => .ok (.int ts.length) ρ
  | _ => .bad := Eq.trans rfl rfl
theorem rdOwn_e : rdOwn i ρ = ρ[i]?.bind SV.obj := Eq.trans rfl rfl
@[simp] theorem obj_ow {o : O} : SV.obj (.ow o) = some o := Eq.trans rfl rfl
@[simp] theorem obj_pa {o : O} : SV.obj (.pa o) = some o := Eq.trans rfl rfl
@[simp] theorem obj_fz {t : T} : SV.obj (.fz t) = none := Eq.trans rfl rfl
theorem setOwn_e {o : O} : setOwn i o ρ = match ρ[i]? with
  | some x => ρ.set i (x.to o)
  | none => ρ := Eq.trans rfl rfl
@[simp] theorem to_ow {o o' : O} : (SV.ow o).to o' = .ow o' := Eq.trans rfl rfl
@[simp] theorem to_pa {o o' : O} : (SV.pa o).to o' = .pa o' := Eq.trans rfl rfl
@[simp] theorem withOwn_e {f : M α} : withOwn i f ρ = match rdOwn i ρ with
  | some _ => f ρ
  | none => .bad := Eq.trans rfl rfl
@[simp] theorem withL_e {f : M α} : withL i f ρ = if isL (rdOwn i ρ) = true then f ρ else .bad := Eq.trans rfl rfl
@[simp] theorem isL_l {ts : List T} : isL (some (.l ts)) = true := Eq.trans rfl rfl
@[simp] theorem sSetI_e {fi fv : M T} : sSetI i fi fv ρ = (fv ρ).bind fun t ρ => withOwn i (fun ρ => (fi ρ).bind fun y ρ => match rdOwn i ρ, y with
  | some (.l ts), .int j => match idx ts.length j with
    | some m => .ok .nx (setOwn i (.l (ts.set m t)) ρ)
    | none => .bad
  | _, _ => .bad) ρ := Eq.trans rfl rfl
@[simp] theorem apnM_e : apnM i f ρ = withL i (fun ρ => (f ρ).bind fun y ρ => match rdOwn i ρ with
  | some (.l ts) => if ts.length < 16777216 then .ok .non (setOwn i (.l (ts ++ [y])) ρ) else .bad
  | _ => .bad) ρ := Eq.trans rfl rfl
@[simp] theorem calM_e {G : SgM} : calM G i fs ρ = withOwn i (fun ρ => (fs ρ).bind fun ts ρ => match rdOwn i ρ with
  | some o => match G o ts with
    | .ok (t, o') _ => .ok t (setOwn i o' ρ)
    | _ => .bad
  | none => .bad) ρ := Eq.trans rfl rfl
@[simp] theorem lcM_e {vs : List Nat} {src : M (List T)} {gt : MG} {test : M Bool} {elt : M T} : lcM vs src gt test elt ρ = (src ρ).bind fun ts ρ => if freeS ρ vs = true then (lcL vs gt test elt ts [] ρ).bind fun l ρ => .ok (.l l) ρ else .bad := Eq.trans rfl rfl
@[simp] theorem outF_rt {t : T} : outF (.ok (.rt t) ρ) = .ok t [] := Eq.trans rfl rfl
@[simp] theorem outF_nx : outF (.ok .nx ρ) = .ok .non [] := Eq.trans rfl rfl
@[simp] theorem outF_bad : outF .bad = .bad := Eq.trans rfl rfl
@[simp] theorem lent_e {o : O} {r : Env} : lent (.pa o :: r) = some o := Eq.trans rfl rfl
@[simp] theorem outM_rt {t : T} : outM (.ok (.rt t) ρ) = outV t ρ := Eq.trans rfl rfl
@[simp] theorem outM_nx : outM (.ok .nx ρ) = outV .non ρ := Eq.trans rfl rfl
@[simp] theorem outM_bad : outM .bad = .bad := Eq.trans rfl rfl
@[simp] theorem outV_e {t : T} {o : O} {r : Env} : outV t (.pa o :: r) = .ok (t, o) [] := Eq.trans rfl rfl
end
/-! ### operators on given kinds -/
section
variable {i j : Int} {a b : Bool} {x y : T} {xs ys : List T} {z w : Str}
@[simp] theorem intO_e {f : Int → Int → T} : intO f (.int i) (.int j) = some (f i j) := Eq.trans rfl rfl
@[simp] theorem intC_e {c : Int → Int → Bool} {f : Int → Int → Int} : intC c f (.int i) (.int j) = if c i j then some (.int (f i j)) else none := Eq.trans rfl rfl
@[simp] theorem mulO_e : mulO (.int i) (.int j) = if mulC i j then some (.int (i * j)) else none := Eq.trans rfl rfl
@[simp] theorem addO_int : addO (.int i) (.int j) = some (.int (i + j)) := Eq.trans rfl rfl
@[simp] theorem addO_lst : addO (.lst xs) (.lst ys) = if xs.length + ys.length ≤ 16777216 then some (.lst (xs ++ ys)) else none := Eq.trans rfl rfl
@[simp] theorem addO_tup : addO (.tup xs) (.tup ys) = if xs.length + ys.length ≤ 16777216 then some (.tup (xs ++ ys)) else none := Eq.trans rfl rfl
@[simp] theorem addO_str : addO (.str z) (.str w) = if z.length + w.length ≤ 16777216 then some (.str (z ++ w)) else none := Eq.trans rfl rfl
theorem modO_e (h : 0 < j) : modO (.int i) (.int j) = some (.int (i % j)) := by
  show (if decide (j ≠ 0) = true then some (T.int (i.fmod j)) else none) = _
  rw [if_pos (decide_eq_true (by omega)), Int.fmod_eq_emod_of_nonneg _ (by omega)]
theorem mulC_of {m n : Nat} (hi : i.natAbs < 2 ^ m) (hj : j.natAbs < 2 ^ n) (hm : 0 < m) (hn : 0 < n) (h : m + n ≤ 100000000) : mulC i j = true := by
  unfold mulC
  rw [decide_eq_true_eq]
  have h1 := PySem.Flt.log2_lt_of hm hi
  have h2 := PySem.Flt.log2_lt_of hn hj
  omega
@[simp] theorem eqO_int : eqO (.int i) (.int j) = some (.bl (decide (i = j))) := by
  simp [eqO, eqT, flatT, L2.scal]
@[simp] theorem neO_int : neO (.int i) (.int j) = some (.bl (!decide (i = j))) := by
  simp [neO, eqT, flatT, L2.scal]
@[simp] theorem eqO_bl : eqO (.bl a) (.bl b) = some (.bl (decide (a = b))) := by
  simp [eqO, eqT, flatT, L2.scal]
@[simp] theorem neO_bl : neO (.bl a) (.bl b) = some (.bl (!decide (a = b))) := by
  simp [neO, eqT, flatT, L2.scal]
@[simp] theorem eqO_str : eqO (.str z) (.str w) = some (.bl (decide (z = w))) := by
  simp [eqO, eqT, flatT, L2.scal]
@[simp] theorem neO_str : neO (.str z) (.str w) = some (.bl (!decide (z = w))) := by
  simp [neO, eqT, flatT, L2.scal]
@[simp] theorem eqO_nn : eqO .non .non = some (.bl true) := by
  simp [eqO, eqT, flatT, L2.scal]
@[simp] theorem is_bl : isNO false (.bl a) (.bl b) = some (.bl (decide (a = b))) := Eq.trans rfl rfl
@[simp] theorem isn_bl : isNO true (.bl a) (.bl b) = some (.bl (!decide (a = b))) := Eq.trans rfl rfl
@[simp] theorem is_nn : isNO false .non .non = some (.bl true) := Eq.trans rfl rfl
@[simp] theorem isn_nn : isNO true .non .non = some (.bl false) := Eq.trans rfl rfl
@[simp] theorem is_tn : isNO false (.tup xs) .non = some (.bl false) := Eq.trans rfl rfl
@[simp] theorem is_in : isNO false (.int i) .non = some (.bl false) := Eq.trans rfl rfl
@[simp] theorem isn_tn : isNO true (.tup xs) .non = some (.bl true) := Eq.trans rfl rfl
@[simp] theorem isn_in : isNO true (.int i) .non = some (.bl true) := Eq.trans rfl rfl
@[simp] theorem tyT_non : tyT .non = some .non := Eq.trans rfl rfl
@[simp] theorem tyT_bl : tyT (.bl a) = some .bl := Eq.trans rfl rfl
@[simp] theorem tyT_int : tyT (.int i) = some .int := Eq.trans rfl rfl
@[simp] theorem tyT_str : tyT (.str z) = some .str := Eq.trans rfl rfl
@[simp] theorem tyT_lst : tyT (.lst xs) = some .lst := Eq.trans rfl rfl
@[simp] theorem tyT_sl : tyT (.sl xs) = some .lst := Eq.trans rfl rfl
@[simp] theorem tyT_tup : tyT (.tup xs) = some .tup := Eq.trans rfl rfl
@[simp] theorem tyT_dk {ks : List L2.Key} {vs : List T} : tyT (.dk ks vs) = some .dct := Eq.trans rfl rfl
@[simp] theorem isiO_e {b : Ty} : isiO b x = (tyT x).map fun a => .bl (isTy a b) := Eq.trans rfl rfl
@[simp] theorem isi2O_e {b c : Ty} : isi2O b c x = (tyT x).map fun a => .bl (isTy a b || isTy a c) := Eq.trans rfl rfl
@[simp] theorem isTy_e {a b : Ty} : isTy a b = (decide (a = b) || (decide (a = .bl) && decide (b = .int))) := Eq.trans rfl rfl
@[simp] theorem tupO_e : tupO xs = if xs.length ≤ 16777216 then some (.tup xs) else none := Eq.trans rfl rfl
@[simp] theorem newL_e : newL xs = if xs.length ≤ 16777216 then some (.l xs) else none := Eq.trans rfl rfl
@[simp] theorem abs1O_e : abs1O [.int i] = some (.int (if i < 0 then -i else i)) := Eq.trans rfl rfl
@[simp] theorem lenO_l : lenO [.lst xs] = some (.int xs.length) := Eq.trans rfl rfl
@[simp] theorem lenO_s : lenO [.sl xs] = some (.int xs.length) := Eq.trans rfl rfl
@[simp] theorem lenO_t : lenO [.tup xs] = some (.int xs.length) := Eq.trans rfl rfl
@[simp] theorem lenO_str : lenO [.str z] = if z.length ≤ 16777216 then some (.int z.length) else none := Eq.trans rfl rfl
@[simp] theorem ixO_l : ixO (.lst xs) (.int i) = atT xs i := Eq.trans rfl rfl
@[simp] theorem ixO_s : ixO (.sl xs) (.int i) = atT xs i := Eq.trans rfl rfl
@[simp] theorem ixO_t : ixO (.tup xs) (.int i) = atT xs i := Eq.trans rfl rfl
@[simp] theorem all1O_e : all1O [.lst xs] = (blsT xs).map fun bs => .bl (bs.all id) := Eq.trans rfl rfl
@[simp] theorem rg1_e : rg1 [.int j] = if decide (-4611686018427387904 ≤ j) && decide (j < 4611686018427387904) then some (rgT 0 j.toNat) else none := Eq.trans rfl rfl
theorem atT_nat {n : Nat} {t : T} (h : xs[n]? = some t) : atT xs (n : Int) = some t := by
  have hl := (List.getElem?_eq_some_iff.mp h).1
  unfold atT idx
  rw [if_pos (by omega), if_pos (by omega)]
  simpa using h
theorem atT_pos {t : T} (h0 : 0 ≤ i) (h : xs[i.toNat]? = some t) : atT xs i = some t := by
  have := atT_nat h
  rwa [Int.toNat_of_nonneg h0] at this
end
/-! ### loops -/
@[simp] theorem forL_nil {g : MG} {s : MS} {ρ : Env} : forL g s [] ρ = .ok .nx ρ := Eq.trans rfl rfl
theorem whl_succ {g : M Bool} {s : MS} {n : Nat} {ρ : Env} : whl g s (n + 1) ρ = (g ρ).bind fun b ρ => if b = true then (s ρ).bind fun fl ρ => match fl with
      | .nx => whl g s n ρ
      | .ct => whl g s n ρ
      | .bk => .ok .nx ρ
      | .rt t => .ok (.rt t) ρ
    else .ok .nx ρ := Eq.trans rfl rfl
/-- [e for x in ts if t], nothing else changed -/
theorem lcL_map {ρ0 : Env} {i : Nat} {test : M Bool} {elt : M T} {p : T → Bool} {φ : T → T} (hi : i < ρ0.length) : ∀ {ts acc : List T}, (∀ t ∈ ts, test (ρ0.set i (.fz t)) = .ok (p t) (ρ0.set i (.fz t))) → (∀ t ∈ ts, p t = true → elt (ρ0.set i (.fz t)) = .ok (φ t) (ρ0.set i (.fz t))) →
    acc.length + ts.length ≤ 16777216 → lcL [i] (gN i) test elt ts acc ρ0 = .ok (acc ++ (ts.filter p).map φ) ρ0
  | [], acc, _, _, _ => by simp [lcL]
  | t :: ts, acc, h1, h2, hl => by
    have b1 : ∀ x, bring ρ0 (ρ0.set i x) [i] = ρ0 := fun x => by
      show (ρ0.set i x).set i (ρ0.getD i .un) = ρ0
      rw [List.set_set]
      apply List.ext_getElem?
      intro j
      by_cases hj : i = j
      · subst hj
        rw [List.getElem?_set_self (by simpa using hi), List.getD_eq_getElem?_getD, List.getElem?_eq_getElem hi]
        rfl
      · rw [List.getElem?_set_ne hj]
    have w1 : gN i t (wipeE ρ0 [i]) = some (ρ0.set i (.fz t)) := by
      show (if i < ((ρ0.set i .un)).length then some ((ρ0.set i .un).set i (.fz t)) else none) = _
      rw [if_pos (by simpa using hi), List.set_set]
    have h1t := h1 t (List.mem_cons_self ..)
    unfold lcL
    rw [w1]
    simp only [h1t, noX_ok, bind_ok]
    simp only [List.length_cons] at hl
    cases hp : p t with
    | true =>
      simp only [if_true, h2 t (List.mem_cons_self ..) hp, noX_ok, bind_ok, b1]
      rw [if_pos (by omega), lcL_map hi (fun t ht => h1 t (List.mem_cons_of_mem _ ht)) (fun t ht => h2 t (List.mem_cons_of_mem _ ht)) (by simp; omega)]
      simp [List.filter_cons, hp]
    | false =>
      simp only [Bool.false_eq_true, if_false, b1]
      rw [lcL_map hi (fun t ht => h1 t (List.mem_cons_of_mem _ ht)) (fun t ht => h2 t (List.mem_cons_of_mem _ ht)) (by omega)]
      simp [List.filter_cons, hp]
end FL

/-! FL13: small things. -/
namespace FL
open PySem PySem.Spec L2
theorem bad_sp {K : PySem.W.Frag} {mg : Str → Option Value} {vs : List V} {H : Hp} {Q : V → Hp → Prop} {E : XK} (h : spF K mg (fun _ => .bad) vs H Q E) : False := by
  obtain ⟨B, F, ts, _, _, _, _, z⟩ := h
  exact z
section
variable {i j : Int}
@[simp] theorem gtO_e : gtO (.int i) (.int j) = some (.bl (decide (j < i))) := Eq.trans rfl rfl
@[simp] theorem geO_e : geO (.int i) (.int j) = some (.bl (decide (j ≤ i))) := Eq.trans rfl rfl
@[simp] theorem leO_e : leO (.int i) (.int j) = some (.bl (decide (i ≤ j))) := Eq.trans rfl rfl
end
end FL

/-! FL14: == on data. -/
namespace FL
open PySem PySem.Spec L2
mutual
/-- numbers, texts, and rows of them, so deep -/
def dat : Nat → T → Bool
  | _, .non => true
  | _, .int _ => true
  | _, .str x => PyData.strOk x
  | k + 1, .tup ts => dats k ts
  | k + 1, .lst ts => dats k ts
  | _, _ => false
def dats : Nat → List T → Bool
  | _, [] => true
  | k, t :: ts => dat k t && dats k ts
end
/-- rows of ints -/
def its (L : List Int) : List T := L.map T.int
end FL

/-! FL15: loops: an accumulator; the first that stops; comprehensions that draw. -/
namespace FL
open PySem PySem.Spec L2
end FL

/-! FL16: x in y. -/
namespace FL
open PySem PySem.Spec PyProof.Rows L2
section
variable {X : Cx}
/-- is x among them -/
def amongT (x : T) (ys : List T) : Option Bool := match toD x, toDs ys with
  | some d, some ds => if SeqAt.shaped d && SeqAt.shaped (.list ds) then some (ds.any fun z => PyData.eqv z d) else none
  | _, _ => none
def inB (x y : T) : Option Bool := match y with
  | .lst ys => amongT x ys
  | .sl ys => amongT x ys
  | .tup ys => amongT x ys
  | .str z => match x with
    | .str ⟨cs⟩ => match cs.toList with
      | [c] => some (decide (c ∈ z.cps.toList))
      | _ => none
    | _ => none
  | _ => none
def inO (x y : T) : Option T := (inB x y).map T.bl
def rInTup (K : PySem.W.Frag) : R2 := fun x y H Q => ∃ d ds, Dp K H x d ∧ Dp K H y (.tuple ds) ∧ SeqAt.shaped d = true ∧ SeqAt.shaped (.tuple ds) = true ∧ Q (.bl (ds.any fun z => PyData.eqv z d)) H
theorem op_inTup (hu : X.A.units + 65 < cLine) : OpR X (compareOp .In) (rInTup X.K) := by
  intro pins s σ H x y v u Q I rx ry h
  obtain ⟨d, ds, hd, he, sd, se, q⟩ := h
  obtain ⟨as, r1⟩ := Dp.reads I d x v hd rx
  obtain ⟨bs, r2⟩ := Dp.reads I (.tuple ds) y u he ry
  exact SeqAt.in_tuple_reads r2 r1 (SeqAt.canLay_of_shaped se) (SeqAt.canLay_of_shaped sd) (room_in_shaped sd hu) ⟨.bl _, H, I, rfl, q⟩
def rInA (X : Cx) : R2 := fun x y H Q => (rInD X.K x y H Q ∨ rInTup X.K x y H Q) ∨ rInS x y H Q
theorem op_inA (hu : X.A.units + 65 < cLine) : OpR X (compareOp .In) (rInA X) := ((op_inD hu).or (op_inTup hu)).or op_inS
theorem units65 {k : Nat} {A : Around} (hr : Room k A) : A.units + 65 < cLine := by have := hr.un; omega
theorem inB_cases {k : Bk} {F : Hp} {ρ : FL.Env} {σ : L2.St} {H : Hp} {x y : T} {v u : V} {b : Bool} (R : RSk X k F ρ σ H) (rx : Rep X.K X.mg F x v) (ry : Rep X.K X.mg F y u) (e : inB x y = some b) :
    (∃ d ds, Dp X.K H v d ∧ (Dp X.K H u (.list ds) ∨ Dp X.K H u (.tuple ds)) ∧ SeqAt.shaped d = true ∧ SeqAt.shaped (.list ds) = true ∧ (ds.any fun z => PyData.eqv z d) = b) ∨ ∃ (c : Nat) (z : Str), v = .str ⟨#[c]⟩ ∧ u = .str z ∧ decide (c ∈ z.cps.toList) = b := by
  have am : ∀ {ys : List T}, amongT x ys = some b → ∃ d ds, toD x = some d ∧ toDs ys = some ds ∧ SeqAt.shaped d = true ∧ SeqAt.shaped (.list ds) = true ∧ (ds.any fun z => PyData.eqv z d) = b := fun {ys} h => by
    unfold amongT at h
    split at h
    · rename_i d ds h1 h2
      split at h
      · rename_i h3
        rw [Bool.and_eq_true] at h3
        exact ⟨d, ds, h1, h2, h3.1, h3.2, Option.some.inj h⟩
      · cases h
    · cases h
  unfold inB at e
  split at e
  · rename_i ys
    obtain ⟨d, ds, h1, h2, h3, h4, h5⟩ := am e
    exact .inl ⟨d, ds, dp_of R.fh _ _ _ rx h1, .inl (dp_of R.fh _ _ _ ry (by simp only [toD, h2, Option.map_some])), h3, h4, h5⟩
  · rename_i ys
    obtain ⟨d, ds, h1, h2, h3, h4, h5⟩ := am e
    exact .inl ⟨d, ds, dp_of R.fh _ _ _ rx h1, .inl (dp_of R.fh _ _ _ ry (by simp only [toD, h2, Option.map_some])), h3, h4, h5⟩
  · rename_i ys
    obtain ⟨d, ds, h1, h2, h3, h4, h5⟩ := am e
    exact .inl ⟨d, ds, dp_of R.fh _ _ _ rx h1, .inr (dp_of R.fh _ _ _ ry (by simp only [toD, h2, Option.map_some])), h3, h4, h5⟩
  · rename_i z
    cases x with
    | str w =>
      obtain ⟨cs⟩ := w
      obtain ⟨l⟩ := cs
      match l, e with
      | [c], e => exact .inr ⟨c, z, rx, ry, Option.some.inj e⟩
    | _ => cases e
  · cases e
theorem ot_in : OpT X (rInA X) inO := fun k F ρ σ H Q x y t v u R rx ry e g => by
  unfold inO at e
  rw [Option.map_eq_some_iff] at e
  obtain ⟨b, e, rfl⟩ := e
  rcases inB_cases R rx ry e with ⟨d, ds, h1, h2, h3, h4, h5⟩ | ⟨c, z, h1, h2, h3⟩
  · rcases h2 with h2 | h2
    · exact .inl (.inl ⟨d, ds, h1, h2, h3, h4, by rw [h5]; exact g (.bl b) F H R (Same.refl _) rfl⟩)
    · exact .inl (.inr ⟨d, ds, h1, h2, h3, h4, by rw [h5]; exact g (.bl b) F H R (Same.refl _) rfl⟩)
  · exact .inr ⟨c, z, h1, h2, by rw [h3]; exact g (.bl b) F H R (Same.refl _) rfl⟩
end
end FL

/-! FL17: x[i] += e; [c] * n. -/
namespace FL
open PySem PySem.Spec PyProof.Rows L2
section
variable {X : Cx}
end
section
variable {X : Cx} {E : XK} {b e : Expr} {pos p p2 : Pos} {fi f : M T} {x : Str} {i : Nat}
end
end FL

/-! FL18: new lists: [..] * n, a + b. -/
namespace FL
open PySem PySem.Spec PyProof.Rows L2
section
variable {X : Cx} {E : XK} {a b : Expr} {pos : Pos} {fa fb : M T}
variable {o : T → T → Option O} {ρ : FL.Env} {ts us : List T} {k : Int}
end
end FL

/-! FL19: sorted(xs), data of one kind. -/
namespace FL
open PySem PySem.Spec PyProof.Rows L2
/-! mergeSort with fuel: the kernel reckons it -/
section
variable {α : Type}
def mrgF (le : α → α → Bool) : Nat → List α → List α → List α
  | 0, xs, ys => xs ++ ys
  | n + 1, [], ys => ys
  | n + 1, xs, [] => xs
  | n + 1, x :: xs, y :: ys => if le x y = true then x :: mrgF le n xs (y :: ys) else y :: mrgF le n (x :: xs) ys
theorem mrgF_eq (le : α → α → Bool) : ∀ (n : Nat) (xs ys : List α), xs.length + ys.length ≤ n → mrgF le n xs ys = List.merge xs ys le
  | 0, xs, ys, h => by
    have h1 : xs = [] := List.eq_nil_of_length_eq_zero (by omega)
    have h2 : ys = [] := List.eq_nil_of_length_eq_zero (by omega)
    subst h1; subst h2
    simp [mrgF, List.merge]
  | n + 1, [], ys, h => by simp [mrgF, List.merge]
  | n + 1, x :: xs, [], h => by simp [mrgF, List.merge]
  | n + 1, x :: xs, y :: ys, h => by
    simp only [List.length_cons] at h
    simp only [mrgF, List.merge]
    split
    · rw [mrgF_eq le n xs (y :: ys) (by simp only [List.length_cons]; omega)]
    · rw [mrgF_eq le n (x :: xs) ys (by simp only [List.length_cons]; omega)]
def msF (le : α → α → Bool) : Nat → List α → List α
  | 0, xs => xs
  | n + 1, [] => []
  | n + 1, [x] => [x]
  | n + 1, x :: y :: xs => mrgF le ((x :: y :: xs).length) (msF le n ((x :: y :: xs).take ((xs.length + 3) / 2))) (msF le n ((x :: y :: xs).drop ((xs.length + 3) / 2)))
theorem msF_eq (le : α → α → Bool) : ∀ (n : Nat) (xs : List α), xs.length ≤ n + 1 → msF le n xs = xs.mergeSort le
  | 0, [], h => by simp [msF]
  | 0, [x], h => by simp [msF]
  | 0, x :: y :: xs, h => by simp at h
  | n + 1, [], h => by simp [msF]
  | n + 1, [x], h => by simp [msF]
  | n + 1, x :: y :: xs, h => by
    simp only [List.length_cons] at h
    simp only [msF]
    rw [msF_eq le n _ (by simp only [List.length_take, List.length_cons]; omega), msF_eq le n _ (by simp only [List.length_drop, List.length_cons]; omega)]
    rw [mrgF_eq le _ _ _ (by simp only [List.length_mergeSort, List.length_take, List.length_drop, List.length_cons]; omega)]
    rw [List.mergeSort]
    simp only [List.MergeSort.Internal.splitInTwo_fst, List.MergeSort.Internal.splitInTwo_snd]
    rfl
def srt (le : α → α → Bool) (xs : List α) : List α := msF le xs.length xs
theorem srt_eq (le : α → α → Bool) (xs : List α) : srt le xs = xs.mergeSort le := msF_eq le _ _ (by omega)
end
section
variable {X : Cx}
end
/-- xs in order, as their data are -/
def sortT (xs : List T) (ds : List PyData) : List T := (srt (PySem.W.dataLe false Prod.snd) (xs.zip ds)).map Prod.fst
def okSort (ds : List PyData) : Bool := (ds.all fun d => ds.all fun e => PySem.W.alike d e) && (ds.all fun d => decide (d.depth ≤ 64)) && ((ds.all fun d => match d with
  | .tuple (_ :: _) => true
  | _ => false) || ds.all fun d => match d with
  | .none => false
  | .tuple _ => false
  | _ => true)
def sort1 (ts : List T) : Option O := match ts with
  | [x] => match seqL x with
    | some xs => match toDs xs with
      | some ds => if okSort ds then some (.l (sortT xs ds)) else none
      | none => none
    | none => none
  | _ => none
where seqL (x : T) : Option (List T) := match x with
  | .lst xs => some xs
  | _ => none
section
variable {X : Cx} {E : XK} {e : Expr} {es : List Expr} {pos : Pos} {fs : M (List T)}
end
@[simp] theorem sort1_e {xs : List T} : sort1 [.lst xs] = (match toDs xs with
      | some ds => if okSort ds then some (.l (sortT xs ds)) else none
      | none => none) := Eq.trans rfl rfl
end FL

/-! FL20: range with a step. -/
namespace FL
open PySem PySem.Spec PyProof.Rows L2
section
variable {X : Cx} {E : XK} {pos : Pos}
end
end FL

/-! FL21: [e for x in a if p for y in b if q]. -/
namespace FL
open PySem PySem.Spec PyProof.Rows L2
section
variable {J : It} {n : Nat} {G : Hp → Prop} {Y : Nat → Hp → V → Hp → Prop}
end
section
variable {X : Cx} {E : XK} {f : M T}
end
end FL

set_option maxHeartbeats 4000000
/-! FL22: tuples and texts times a number; int of a truth value; division by any number. -/
namespace FL
open PySem PySem.Spec PyProof.Rows L2
theorem tuple_mulW1 (l : Addr) (items : Array Value) (n : Nat) (dd : Option Addr) (sl : Array (Option Value)) (x : Int) (u : Tok) (c0 : (decide (x < -(2 ^ 63)) || decide (x ≥ 2 ^ 63)) = false) (c1 : (items.isEmpty || x == 1) = true) :
    Meets (Builtin.«tuple.__mul__» ⟨[.ref l, .int x u], []⟩) (fun _ R s => s.heap.get? l = some { cls := .type "tuple", dict := dd, data := .seq items n, slots := sl } ∧
      R (.ok (.ret (Value.ref l))) s) :=
  .of_wp fun prog w A R s h => by
    obtain ⟨hp, g, d, tk, os⟩ := s
    obtain ⟨hl, h⟩ := h
    have f1 := AutoSeq1.idx_int
    have f2 : (Value.type "tuple" == Value.type "tuple") = true := by decide
    wp_walk using wpAny_loadPart' hl
    repeat (first
      | (refine wpAny_ite_false (decide_eq_false (by rw [c0]; exact Bool.false_ne_true)) ?_; wp_walk using wpAny_loadPart' hl)
      | (refine wpAny_ite_true (decide_eq_true c1) ?_; wp_walk using wpAny_loadPart' hl)
      | (refine wpAny_ite_true (decide_eq_true f2) ?_; wp_walk using wpAny_loadPart' hl))
    exact ⟨_, rfl, h⟩
theorem tuple_mulW0 (l : Addr) (items : Array Value) (n : Nat) (dd : Option Addr) (sl : Array (Option Value)) (x : Int) (u : Tok) (c0 : (decide (x < -(2 ^ 63)) || decide (x ≥ 2 ^ 63)) = false) (c1 : (items.isEmpty || x == 1) = false) (c2 : (decide (x ≤ 0) || items.isEmpty) = true) :
    Meets (Builtin.«tuple.__mul__» ⟨[.ref l, .int x u], []⟩) (fun _ R s => s.heap.get? l = some { cls := .type "tuple", dict := dd, data := .seq items n, slots := sl } ∧
      R (.ok (.ret (Value.ref s.heap.objs.size))) { s with heap := s.heap.push { cls := Value.type "tuple", data := Data.seq #[] }, toks := s.toks }) :=
  .of_wp fun prog w A R s h => by
    obtain ⟨hp, g, d, tk, os⟩ := s
    obtain ⟨hl, h⟩ := h
    have f1 := AutoSeq1.idx_int
    wp_walk using wpAny_loadPart' hl
    repeat (first
      | (refine wpAny_ite_false (decide_eq_false (by rw [c0]; exact Bool.false_ne_true)) ?_; wp_walk using wpAny_loadPart' hl)
      | (refine wpAny_ite_false (decide_eq_false (by rw [c1]; exact Bool.false_ne_true)) ?_; wp_walk using wpAny_loadPart' hl)
      | (refine wpAny_ite_true (decide_eq_true c2) ?_; wp_walk using wpAny_loadPart' hl))
    exact ⟨_, rfl, h⟩
def rRep1 (K : PySem.W.Frag) : R2 := fun x y H Q => ∃ l xs, x = .ref l ∧ y = .int 1 ∧ SqT K H l xs ∧ Q (.ref l) H
def rRep0 (K : PySem.W.Frag) : R2 := fun x y H Q => ∃ l k xs, x = .ref l ∧ y = .int k ∧ SqT K H l xs ∧ xs ≠ [] ∧ k ≤ 0 ∧ -1000000 ≤ k ∧ ∀ p, H p = none → Q (.ref p) (upd H p (.tup []))
section
variable {X : Cx}
theorem op_rep1 : OpR X (binaryOp .Mult) (rRep1 X.K) := by
  intro pins s σ H x y v u Q I rx ry h
  obtain ⟨l, xs, rfl, rfl, hT, q⟩ := h
  cases rx
  obtain ⟨t, rfl⟩ := ry
  obtain ⟨its, r, ⟨⟨cls, dd, data, sl⟩, ho, hc, n, hd⟩, hs⟩ := I.tuple hT
  simp only at hc hd
  subst hc hd
  refine wpAny_binaryOp_repeat_ref (T := "tuple") (U := "int") (by decide) ⟨_, ho, rfl⟩ (fun s' => typeIs_int s' 1 t) noFill_tuple_mul F.fills_int_mul F.slot_int_rmul repeat_tuple F.slot_int_index.lookup
    (call_meets F.slot_int_rmul (typeIs_int s 1 t) F.entry_int_rmul (F.args_int_rmul_2 _ _) (int_rmul_tuple 1 t l its.toArray n dd sl)
      ⟨ho, rfl, ⟨_, ho, rfl⟩, call_meets F.slot_tuple_mul ⟨_, ho, rfl⟩ F.entry_tuple_mul (F.args_tuple_mul_2 _ _) (tuple_mulW1 l its.toArray n dd sl 1 t (by decide) (by simp)) ⟨ho, ?_⟩⟩)
  exact ⟨.ref l, H, I, rfl, q⟩
theorem op_rep0 : OpR X (binaryOp .Mult) (rRep0 X.K) := by
  intro pins s σ H x y v u Q I rx ry h
  obtain ⟨l, k, xs, rfl, rfl, hT, hne, h1, h2, q⟩ := h
  cases rx
  obtain ⟨t, rfl⟩ := ry
  obtain ⟨its, r, ⟨⟨cls, dd, data, sl⟩, ho, hc, n, hd⟩, hs⟩ := I.tuple hT
  simp only at hc hd
  subst hc hd
  have hle : its.length = xs.length := r.length.symm
  have hn : its ≠ [] := fun e => hne (by
    rw [e] at hle
    exact List.eq_nil_of_length_eq_zero hle.symm)
  have hi : its.toArray.isEmpty = false := by
    cases its with
    | nil => exact absurd rfl hn
    | cons a b => rfl
  have c0 : (decide (k < -(2 ^ 63)) || decide (k ≥ 2 ^ 63)) = false := by
    rw [decide_eq_false (by omega), decide_eq_false (by omega)] <;> rfl
  have c1 : (its.toArray.isEmpty || k == 1) = false := by
    rw [hi, Bool.false_or]
    exact beq_eq_false_iff_ne.mpr (by omega)
  have c2 : (decide (k ≤ 0) || its.toArray.isEmpty) = true := by
    rw [hi, Bool.or_false]
    exact decide_eq_true (by omega)
  refine wpAny_binaryOp_repeat_ref (T := "tuple") (U := "int") (by decide) ⟨_, ho, rfl⟩ (fun s' => typeIs_int s' k t) noFill_tuple_mul F.fills_int_mul F.slot_int_rmul repeat_tuple F.slot_int_index.lookup
    (call_meets F.slot_int_rmul (typeIs_int s k t) F.entry_int_rmul (F.args_int_rmul_2 _ _) (int_rmul_tuple k t l its.toArray n dd sl)
      ⟨ho, rfl, ⟨_, ho, rfl⟩, call_meets F.slot_tuple_mul ⟨_, ho, rfl⟩ F.entry_tuple_mul (F.args_tuple_mul_2 _ _) (tuple_mulW0 l its.toArray n dd sl k t c0 c1 c2) ⟨ho, ?_⟩⟩)
  refine ⟨.ref s.heap.objs.size, _, I.laid (t' := s.toks) (o := .tup []) (fun b ob q => Heap.get?_push_of_some _ q) (Nat.le_refl _) ?_, rfl, q _ (I.hok.fresh (Nat.le_refl _))⟩
  exact ⟨by decide, _, .nil, IsTup.new _ _⟩
/-- a text times a number -/
def repS (z : Str) (k : Int) : Str := ⟨((List.replicate k.toNat z.cps.toList).flatten).toArray⟩
def rRepS : R2 := fun x y H Q => ∃ z k, x = .str z ∧ y = .int k ∧ -1000000 ≤ k ∧ k ≤ 1000000 ∧ z.length * k.toNat ≤ 1000000 ∧ Q (.str (repS z k)) H
theorem fold_app (xs : Array Nat) : ∀ (m : Nat) (acc : Array Nat), (List.replicate m xs).foldl (· ++ ·) acc = acc ++ ((List.replicate m xs.toList).flatten).toArray
  | 0, acc => by simp
  | m + 1, acc => by
    rw [List.replicate_succ, List.foldl_cons, fold_app xs m, List.replicate_succ, List.flatten_cons]
    apply Array.toList_inj.mp
    simp
theorem repS_eq (z : Str) (k : Int) : (if k < 1 then Str.empty else if (k == 1 || z.length == 0) = true then z else ⟨(List.replicate k.toNat z.cps).foldl (· ++ ·) #[]⟩) = repS z k := by
  unfold repS
  split
  · rename_i h
    have : k.toNat = 0 := by omega
    rw [this]; rfl
  · split
    · rename_i h1 h2
      rw [Bool.or_eq_true, beq_iff_eq, beq_iff_eq] at h2
      rcases h2 with rfl | h2
      · obtain ⟨⟨cs⟩⟩ := z
        simp
      · obtain ⟨⟨cs⟩⟩ := z
        have : cs = [] := by
          have : cs.length = 0 := h2
          exact List.eq_nil_of_length_eq_zero this
        subst this
        simp
    · rw [fold_app]; simp
theorem op_repS : OpR X (binaryOp .Mult) rRepS := by
  intro pins s σ H x y v u Q I rx ry h
  obtain ⟨z, k, rfl, rfl, h1, h2, h3, q⟩ := h
  obtain ⟨t, rfl⟩ := rx
  obtain ⟨u, rfl⟩ := ry
  refine PySem.P.mul_str (by rw [decide_eq_false (by omega), decide_eq_false (by omega)] <;> rfl) ?_ ?_ ?_
  · intro a b
    have hk : k.toNat ≥ 1 := by omega
    have : (z.length : Int) ≤ 1000000 := by
      have : z.length * 1 ≤ z.length * k.toNat := Nat.mul_le_mul_left _ hk
      omega
    have h5 : (1000000 : Int) ≤ (2 ^ 63 - 1) / k := by
      rw [Int.le_ediv_iff_mul_le (by omega)]
      have : 1000000 * k ≤ 1000000 * 1000000 := Int.mul_le_mul_of_nonneg_left h2 (by decide)
      omega
    omega
  · intro a b
    unfold Builtin.Str.tooLong
    rw [sizeLine_eq]
    exact decide_eq_false (by omega)
  · have e := repS_eq z k
    by_cases c1 : k < 1
    · rw [if_pos c1] at e ⊢
      exact ⟨by decide, .str (repS z k), H, I.tok _, ⟨_, by rw [← e]⟩, q⟩
    · rw [if_neg c1] at e ⊢
      by_cases c2 : (k == 1 || z.length == 0) = true
      · rw [if_pos c2] at e ⊢
        exact ⟨.str (repS z k), H, I, ⟨t, by rw [← e]⟩, q⟩
      · rw [if_neg c2] at e ⊢
        refine ⟨?_, .str (repS z k), H, I.tok _, ⟨_, by rw [← e]⟩, q⟩
        rw [e]
        have : (repS z k).length = k.toNat * z.length := by
          show (List.replicate k.toNat z.cps.toList).flatten.toArray.size = _
          rw [List.size_toArray, List.length_flatten, List.map_replicate, List.sum_replicate_nat]
          rfl
        rw [this, sizeLine_eq, Nat.mul_comm]
        omega
/-- any product -/
def mulA (x y : T) : Option T := match x, y with
  | .tup a, .int k => if k = 1 then some (.tup a) else if a = [] then none else if k ≤ 0 then (if -1000000 ≤ k then some (.tup []) else none) else if k ≤ 1000 ∧ a.length ≤ 1000 then some (.tup (List.replicate k.toNat a).flatten) else none
  | .str z, .int k => if -1000000 ≤ k ∧ k ≤ 1000000 ∧ z.length * k.toNat ≤ 1000000 then some (.str (repS z k)) else none
  | x, y => mulO x y
def rMulA (X : Cx) : R2 := fun x y H Q => rMulT X x y H Q ∨ rRepT X.K x y H Q ∨ rRep1 X.K x y H Q ∨ rRep0 X.K x y H Q ∨ rRepS x y H Q
theorem op_mulA : OpR X (binaryOp .Mult) (rMulA X) := op_mulT.or (op_repT.or (op_rep1.or (op_rep0.or op_repS)))
theorem ot_mulA : OpT X (rMulA X) mulA := fun k F ρ σ H Q x y t v u R rx ry e q => by
  unfold mulA at e
  split at e
  · rename_i a i
    obtain ⟨l, xs, rfl, hT, r1⟩ := rx
    have hl := r1.length
    have hu : u = .int i := ry
    subst hu
    by_cases h1 : i = 1
    · subst h1
      rw [if_pos rfl] at e; cases e
      exact .inr (.inr (.inl ⟨l, xs, rfl, rfl, same_SqT R.fh hT, q _ F H R (Same.refl _) ⟨l, xs, rfl, hT, r1⟩⟩))
    · rw [if_neg h1] at e
      by_cases h2 : a = []
      · rw [if_pos h2] at e; cases e
      · rw [if_neg h2] at e
        have hxn : xs ≠ [] := fun z => h2 (by rw [z] at hl; exact List.eq_nil_of_length_eq_zero hl)
        by_cases h3 : i ≤ 0
        · rw [if_pos h3] at e
          split at e
          · rename_i h4
            cases e
            refine .inr (.inr (.inr (.inl ⟨l, i, xs, rfl, rfl, same_SqT R.fh hT, hxn, h3, h4, fun p np => ?_⟩)))
            have sF : Same F (upd F p (.tup [])) := same_upd (R.fnone np)
            exact q _ _ _ (R.newF np) sF ⟨p, [], rfl, upd_same, .nil⟩
          · cases e
        · rw [if_neg h3] at e
          split at e
          · rename_i h4
            cases e
            rw [hl] at h4
            refine .inr (.inl ⟨l, i, xs, rfl, rfl, same_SqT R.fh hT, hxn, by omega, h4.1, h4.2, fun p np => ?_⟩)
            have sF : Same F (upd F p (.tup (List.replicate i.toNat xs).flatten)) := same_upd (R.fnone np)
            exact q _ _ _ (R.newF np) sF ⟨p, _, rfl, upd_same, (r1.rep _).mono sF⟩
          · cases e
  · rename_i z i
    have hu : u = .int i := ry
    have hv : v = .str z := rx
    subst hu; subst hv
    split at e
    · rename_i h
      cases e
      exact .inr (.inr (.inr (.inr ⟨z, i, rfl, rfl, h.1, h.2.1, h.2.2, q _ F H R (Same.refl _) rfl⟩)))
    · cases e
  · exact .inl (ot_mul k F ρ σ H Q x y t v u R rx ry e q)
/-! division by any number -/
def divC2 (_ j : Int) : Bool := decide (0 < j) && decide (j.natAbs.log2 < 9000) || decide (j ≠ 0) && decide (j.natAbs.log2 < 9000)
abbrev divA := intC divC2 fun i j => i.fdiv j
def CDivA (_ j : Int) : Prop := j ≠ 0 ∧ j.natAbs.log2 < 9000
theorem op_fdivA : OpR X (binaryOp .FloorDiv) (rI CDivA fun i j => .int (i.fdiv j)) := opI fun _ _ _ _ _ _ _ hc q => floordiv_int hc.1 q (.inl (PyProof.noPylong_of_log2 hc.2))
def rDivA : R2 := fun x y H Q => rI CDivW (fun i j => .int (i / j)) x y H Q ∨ rI CDivA (fun i j => .int (i.fdiv j)) x y H Q
theorem op_divA : OpR X (binaryOp .FloorDiv) rDivA := op_fdivW.or op_fdivA
theorem ot_divA : OpT X rDivA divA := fun k F ρ σ H Q x y t v u R rx ry e q => by
  obtain ⟨i, j, rfl, rfl, h, rfl⟩ := intC_some e
  unfold divC2 at h
  rw [Bool.or_eq_true, Bool.and_eq_true, Bool.and_eq_true] at h
  rcases h with h | h
  · have h1 := of_decide_eq_true h.1
    refine .inl ⟨i, j, rx, ry, ⟨h1, of_decide_eq_true h.2⟩, ?_⟩
    have e1 : i / j = i.fdiv j := (Int.fdiv_eq_ediv_of_nonneg _ (by omega)).symm
    exact q _ F H R (Same.refl _) (show V.int (i / j) = V.int (i.fdiv j) by rw [e1])
  · exact .inr ⟨i, j, rx, ry, ⟨of_decide_eq_true h.1, of_decide_eq_true h.2⟩, q _ F H R (Same.refl _) rfl⟩
/-! differences of truth values too -/
def b01 (b : Bool) : Int := if b then 1 else 0
def subA (x y : T) : Option T := match x, y with
  | .int i, .int j => some (.int (i - j))
  | .bl a, .bl b => some (.int (b01 a - b01 b))
  | _, _ => none
def rSubB : R2 := fun x y H Q => ∃ a b, x = .bl a ∧ y = .bl b ∧ Q (.int (b01 a - b01 b)) H
theorem op_subB : OpR X (binaryOp .Sub) rSubB := by
  intro pins s σ H x y v u Q I rx ry h
  obtain ⟨a, b, rfl, rfl, q⟩ := h
  cases rx
  cases ry
  exact PyProof.Rows.sub_bool ⟨.int (b01 a - b01 b), H, I.tok _, ⟨_, rfl⟩, q⟩
def rSubA : R2 := fun x y H Q => rI0 (fun i j => .int (i - j)) x y H Q ∨ rSubB x y H Q
theorem op_subA : OpR X (binaryOp .Sub) rSubA := op_sub.or op_subB
theorem ot_subA : OpT X rSubA subA := fun k F ρ σ H Q x y t v u R rx ry e q => by
  unfold subA at e
  split at e
  · rename_i i j
    cases e
    exact .inl ⟨i, j, rx, ry, q _ F H R (Same.refl _) rfl⟩
  · rename_i a b
    cases e
    exact .inr ⟨a, b, rx, ry, q _ F H R (Same.refl _) rfl⟩
  · cases e
/-! int of a truth value too -/
def intA (ts : List T) : Option T := match ts with
  | [.int i] => some (.int i)
  | [.bl b] => some (.int (if b then 1 else 0))
  | _ => none
theorem ct_intA : CalT X (fun xs H Q => (∃ i, xs = [.int i] ∧ Q (.int i) H) ∨ ∃ k, xs = [.bl k] ∧ Q (.int (if k then 1 else 0)) H) intA := fun k F ρ σ H Q ts t vs R rs e q => by
  unfold intA at e
  split at e
  · rename_i i
    cases e
    obtain ⟨v, rfl, h⟩ := rs.one_of
    exact .inl ⟨i, by rw [show v = V.int i from h], q _ F H R (Same.refl _) rfl⟩
  · rename_i b
    cases e
    obtain ⟨v, rfl, h⟩ := rs.one_of
    exact .inr ⟨b, by rw [show v = V.bl b from h], q _ F H R (Same.refl _) rfl⟩
  · cases e
end
end FL

/-! FL23: an object of one's own looked at without being given away: in, ==. -/
namespace FL
open PySem PySem.Spec PyProof.Rows L2
section
variable {X : Cx} {E : XK} {a : Expr} {fa : M T} {pos p : Pos} {x : Str} {i : Nat}
end
end FL

/-! FL24: raise of an own exception class. -/
namespace FL
open PySem PySem.Spec PyProof.Rows L2
/-- what a raise of an own class without fields wants of the module's class -/
structure ExcC (K : PySem.W.Frag) (mg : Str → Option Value) (c : Str) : Prop where
  ex : ∃ (C : Addr) (bmB : List Value) (B newId initId : String) (_ : ExcBaseFacts B newId initId bmB), PySem.W.excIn K C bmB newId = true ∧ mg c = some (.ref C) ∧ PySem.W.keepIn K (.ref C) = true ∧ PySem.W.subIn K (.ref C) (.type "BaseException") = some true ∧ PySem.W.typeIn K (.ref C) = some (.type "type")
theorem ExcC.of {K : PySem.W.Frag} {mg : Str → Option Value} {c : Str} {C : Addr} {bmB : List Value} {B newId initId : String} (F : ExcBaseFacts B newId initId bmB) (q : PySem.W.excIn K C bmB newId = true) (g : mg c = some (.ref C)) (k : PySem.W.keepIn K (.ref C) = true)
    (b : PySem.W.subIn K (.ref C) (.type "BaseException") = some true) (t : PySem.W.typeIn K (.ref C) = some (.type "type")) : ExcC K mg c := ⟨⟨C, bmB, B, newId, initId, F, q, g, k, b, t⟩⟩
section
variable {X : Cx} {E : XK} {c : Str} {p pos rpos : Pos}
end
end FL

set_option maxHeartbeats 2000000
/-! FL25: several except clauses, some with a name (as e). -/
namespace FL
open PySem PySem.Spec PyProof.Rows L2
abbrev HB := Addr → Value → Option Addr → TS
section
variable {X : Cx} {pins : List (Addr × Obj)} {a : Addr} {B : Heap} {σ : L2.St} {H : Hp} {cls : Value} {d : Option Addr} {s : Shared} {D : Ends} {Wout : WX}
end
section
variable {X : Cx} {body : List Stmt} {h₀ : ExceptHandler} {hds : List ExceptHandler} {l : List (Value × Option Nat × HB)} {pos : Pos} {tb : WX → TS} {Wout : WX}
end
end FL

set_option maxHeartbeats 2000000
/-! FL26: raise of an own class whose __init__ keeps one field. -/
namespace FL
open PySem PySem.Spec PyProof.Rows L2
/-- def __init__(self, f): self.f = f -/
def spInit (K : PySem.W.Frag) (f : Str) : Sp := fun vs H Q _ => ∃ (a C : Addr) (y : V), vs = [.ref a, y] ∧ H a = some (exo a C none) ∧ OexC K C ∧ PySem.W.findIn K (.ref C) f = some none ∧
  ∀ dx, H dx = none → dx ≠ a → Q .non (upd (upd H dx (exd dx [(f, y)])) a (exo a C (some dx)))
section
variable {P : Program} {w : World} {K : PySem.W.Frag} {mg : Str → Option Value} {base : Heap}
/-- what a raise of the class c with the field f wants -/
structure ExcF (P : Program) (w : World) (K : PySem.W.Frag) (mg : Str → Option Value) (base : Heap) (k : Nat) (c f : Str) : Prop where
  ex : ∃ (C fI : Addr) (fd : FuncData), mg c = some (.ref C) ∧ OexC K C ∧ PySem.W.findIn K (.ref C) f = some none ∧ PySem.W.findIn K (.ref C) "__init__" = some (some (.ref fI)) ∧ PySem.W.typeIn K (.ref fI) = some (.type "function") ∧
    Binds K fd ["self", f] [] ∧ FnOk P w K mg base (L2.CX P w) k fI fd ["self", f] (spInit K f)
theorem ExcF.mono {j k : Nat} {c f : Str} (h : ExcF P w K mg base j c f) (l : j ≤ k) : ExcF P w K mg base k c f := by
  obtain ⟨C, fI, fd, a, b, c, d, e, g, F⟩ := h.ex
  exact ⟨C, fI, fd, a, b, c, d, e, g, F.mono l⟩
end
section
variable {X : Cx} {E : XK} {c f : Str} {p pos rpos : Pos} {e : Expr} {fs : M (List T)} {k : Nat}
end
end FL

set_option maxHeartbeats 2000000
/-! FL27: the law's def that tells the name of an error. -/
namespace FL
open PySem PySem.Spec PyProof.Rows L2
/-- a clause: except c: return r; except c as e: return (r, e.f) if isinstance(e, ValueError) else .. -/
inductive Cl where
  | s (c r : Str) | f (c r f : Str)
def Cl.cls : Cl → Str
  | .s c _ => c
  | .f c _ _ => c
section
variable {X : Cx} {i : Nat} {hds : List ExceptHandler} {cls : List Cl}
end
end FL

set_option maxHeartbeats 2000000
/-! FL28: a lambda with no parameter, or one with a default, handed to a def. -/
namespace FL
open PySem PySem.Spec PyProof.Rows L2 LamX
section
variable {X : Cx} {pins : List (Addr × Obj)} {σ : L2.St} {H : Hp} {s : Shared}
end
/-- the parameters of the lambda: none, or one with an int as its default -/
inductive LamP where
  | none | one (d : Str) (i : Int)
def LamP.ds : LamP → List Str
  | .none => []
  | .one d _ => [d]
/-- what binding them gives -/
def LamP.to (lp : LamP) (binds : List (Str × Value)) : Prop := match lp with
  | .none => binds = []
  | .one d i => ∃ t, binds = [(d, .int i t)]
section
variable {X : Cx} {pins : List (Addr × Obj)} {σ : L2.St} {H : Hp} {s : Shared}
end
end FL

set_option maxHeartbeats 2000000
/-! FL29: the lambda called by the def that got it. -/
namespace FL
open PySem PySem.Spec PyProof.Rows L2 LamX
structure LamS2 (sc scope : Scope) (ds : List Str) : Prop where
  kind : scope.kind = .function
  co : scope.isCoroutine = false
  gen : scope.isGenerator = false
  own : ∀ y ∈ scope.names, y.2 ≠ .cell ∧ (y.2 = .local → y.1 ∈ ds)
  loc : ∀ d ∈ ds, scope.names.lookup d = some .local
  free : ∀ y ∈ scope.names, y.2 = .free → sc.names.lookup y.1 = some .cell ∨ sc.names.lookup y.1 = some .free
theorem LamS2.has {X : Cx} {scope : Scope} {ds : List Str} (L : LamS2 X.env.scope scope ds) (ok : X.Ok) : ∀ y ∈ scope.names, y.2 = .free → ∃ c, X.env.cells.lookup y.1 = some c := fun y hy e => by
  rcases L.free y hy e with k | k
  · exact ok.has _ (.inl k)
  · exact ok.has _ (.inr k)
section
variable {X : Cx} {pins : List (Addr × Obj)} {σ : L2.St} {H HZ : Hp} {s s1 : Shared}
end
section
variable {X : Cx}
end
end FL

set_option maxHeartbeats 2000000
/-! FL30: _law_error(lambda: f(..)) as an expression. -/
namespace FL
open PySem PySem.Spec PyProof.Rows L2 LamX
def exM (c c' : Str) : Bool := c == c' || c' == "TemperError"
structure ExM (K : PySem.W.Frag) (mg : Str → Option Value) (c c' : Str) : Prop where
  ok : ∃ C C' : Addr, mg c = some (.ref C) ∧ mg c' = some (.ref C') ∧ PySem.W.exmOne K (.ref C) (.ref C') = some (exM c c')
theorem ExM.of {K : PySem.W.Frag} {mg : Str → Option Value} {c c' : Str} {C C' : Addr} (h1 : mg c = some (.ref C)) (h2 : mg c' = some (.ref C')) (b : PySem.W.subIn K (.ref C') (.type "BaseException") = some true) (d : PySem.W.hasDictIn K C' = true) (t : PySem.W.typeIn K (.ref C') = some (.type "type")) (h : PySem.W.subIn K (.ref C) (.ref C') = some (exM c c')) : ExM K mg c c' :=
  ⟨C, C', h1, h2, PySem.W.exm_ref b d t h⟩
section
variable {K : PySem.W.Frag} {mg : Str → Option Value}
end
section
variable {X : Cx} {E : XK} {x y : Str} {g : Sg} {k i : Nat} {e : Expr} {es : List Expr} {fs : M (List T)} {p pos : Pos}
end
section
variable {X : Cx} {E : XK}
theorem lawTab_one {K : PySem.W.Frag} {mg : Str → Option Value} {P P' : Addr} (h : LawTab K mg P) (h' : LawTab K mg P') : P' = P := by
  obtain ⟨fa, o, fd, c, e, dd, vs, sl, a1, a2, a3, a4, a5, a6⟩ := h
  obtain ⟨fa', o', fd', c', e', dd', vs', sl', b1, b2, b3, b4, b5, b6⟩ := h'
  rw [a1] at b1; cases b1
  rw [a2] at b2; cases b2
  rw [a3] at b3; cases b3
  rw [a4] at b4; cases b4
  rw [a5] at b5; cases b5
  rw [a6] at b6; cases b6
  rfl
end
end FL

set_option maxHeartbeats 2000000
/-! FL31: the law's end, with its table of code objects. -/
namespace FL
open PySem PySem.Spec PyProof.Rows L2 LamX
/-- the law's code object at c, its table at P -/
structure LawCode (K : PySem.W.Frag) (c P : Addr) : Prop where
  ex : ∃ (dd : Option Addr) (vs : Array Value) (sl : Array (Option Value)) (file : Str) (tf : Tok) (flags : Int) (tg : Tok) (inF : Bool) (text : Int) (tt : Tok), K.lookup c = some ⟨.type "code", dd, .fields vs, sl⟩ ∧ vs[11]? = some (.ref P) ∧
    vs.getD 18 .none = .str file tf ∧ vs.getD 7 .none = .int flags tg ∧ vs.getD 9 .none = .bool inF ∧ vs.getD 10 .none = .int text tt ∧ c ≠ P ∧ K.lookup P = none
theorem LawCode.hd {K : PySem.W.Frag} {c P : Addr} {h : Heap} (L : LawCode K c P) (X : K.In h) : PySem.W.CodeHd h c P := by
  obtain ⟨dd, vs, sl, file, tf, flags, tg, inF, text, tt, h1, h2, h3, h4, h5, h6, h7, _⟩ := L.ex
  refine ⟨_, vs, file, tf, flags, tg, inF, text, tt, X _ _ h1, rfl, rfl, h2, ?_, h3, h4, h5, h6, h7⟩
  rw [Array.getD_eq_getD_getElem?, h2]; rfl
theorem law_end {l : PySem.W.OpenLaw} {w : World} {K : PySem.W.Frag} {mg : Str → Option Value} {h : Heap} {fa c P : Addr} {k : Nat} {x : Str} {fd : FuncData} {oc : Value} {od : Option Addr} {sl : Array (Option Value)} (KX : K.In h) (hm : mg "law" = some (.ref fa)) (lk : K.lookup fa = some ⟨oc, od, .func fd, sl⟩) (hcd : fd.code = .ref c) (LC : LawCode K c P) (own : OwnTab K fa h)
    (hb : ∀ (s : Shared) (u : Value), BindsTo s fd ⟨[u], []⟩ [(x, u)]) (F : ∀ base : Heap, K.In base → base.Ns mainGlobals mg → TabB base mg c P → LawTab K mg P → FnOk l.prog w K mg base (L2.CX l.prog w) k fa fd [x] (spLaw K mg)) :
    LawAtS l w K (L2.CX l.prog w) k 63 x mg fa h := by
  obtain ⟨dd, vs, sl2, file, tf, flags, tg, inF, text, tt, h1, h2, h3, h4, h5, h6, h7, h8⟩ := LC.ex
  have LT : LawTab K mg P := ⟨fa, _, fd, c, _, _, vs, _, hm, lk, rfl, hcd, h1, h2⟩
  refine ⟨fd, [(c, P)], spLaw K mg, fun p hp => ?_, fun p hp => ?_, fun p hp => ?_, hb, fun H a ns hl _ hH hS => ?_, fun base kb nb tb => F base kb nb (tb (c, P) (List.mem_singleton.mpr rfl)) LT⟩
  · rw [List.mem_singleton.mp hp]; exact own c P _ fd _ _ vs _ lk rfl hcd h1 h2
  · rw [List.mem_singleton.mp hp]; exact h8
  · rw [List.mem_singleton.mp hp]; exact LC.hd KX
  · refine ⟨a, ns, rfl, hS, hl, fun P' q => ?_, fun H' => rfl⟩
    rw [lawTab_one LT q]
    exact TabS.nil (hH (c, P) (List.mem_singleton.mpr rfl))
section
variable {P : Program} {w : World} {K : PySem.W.Frag} {mg : Str → Option Value} {base : Heap}
/-- the law's def by its body; its code object is at c -/
theorem law_ok {x qual : Str} {st : Stmt} {f c : Addr} {fd : FuncData} {N ps : List Str} {k : Nat} {fb : MS} (F : Fun K x qual st f fd) (hc : fd.code = .ref c) (S : FnScope N ps (defScope st))
    (hb : ∀ (A : Around) (outer : List PySem.Env) (s : Shared) (H : Hp) (E : XK), Room k (A.deeper (PyProof.Rows.envOfC qual (defScope st) s.heap.objs.size f (.ref c))) → FSs (cxOf (L2.CX P w) P w K mg base N qual (defScope st) f (.ref c) A outer s H E) E (defBody st) fb) :
    FnOk P w K mg base (L2.CX P w) (k + 1) f fd ps (spF K mg (fnF N.length ps.length fb)) := by
  obtain ⟨oc, od, kV, doc, pm, an, cdv, ct, osl, rfl, lk, hcd⟩ := F.ex
  have hc : cdv = .ref c := hc
  subst hc
  refine fn_of lk hcd S (fun vs H Q E h => ?_) fun A outer s H vs Q E hr h => ?_
  · obtain ⟨B, F, ts, _, _, _, r, d⟩ := h
    unfold fnF at d
    split at d
    · rename_i hl
      rw [← r.length]; exact hl.1
    · exact d.elim
  · obtain ⟨B, F', ts, sF, sB, tb, r, d⟩ := h
    refine ⟨_, hb A outer s H E hr, ⟨B, F', none, []⟩, F', ts.map SV.fz ++ List.replicate (N.length - ps.length) SV.un, ?_, ?_⟩
    · unfold fnF at d
      split at d
      · rename_i hl
        have q := start_slots (rw := []) (N := N) sF sB tb r (by omega)
        rw [hl.1] at q
        exact q
      · exact d.elim
    · unfold fnF at d
      split at d
      · cases e : fb (ts.map SV.fz ++ List.replicate (N.length - ps.length) SV.un) with
        | bad => rw [e] at d; exact d
        | exc x => rw [e] at d; exact d
        | ok fl ρ =>
          rw [e] at d
          cases fl with
          | nx => exact fun σ' F2 H' R s' => d .non F2 H' R.fh R.bh R.tb s' (fun a o q => R.fr a o q) rfl
          | bk => exact d.elim
          | ct => exact d.elim
          | rt t => exact fun v σ' F2 H' R s' rv => d v F2 H' R.fh R.bh R.tb s' (fun a o q => R.fr a o q) rv
      · exact d.elim
end
end FL

set_option maxHeartbeats 2000000
/-! FL32: what is never reached; empty dicts. -/
namespace FL
open PySem PySem.Spec PyProof.Rows L2
section
variable {X : Cx} {E : XK} {e : Expr} {pos : Pos}
end
end FL

set_option maxHeartbeats 2000000
/-! FL33: what is walked, a text among it. -/
namespace FL
open PySem PySem.Spec PyProof.Rows L2
/-- a text's signs -/
def chT (z : Str) : List T := z.cps.toList.map fun c => T.str ⟨#[c]⟩
def seqTA (t : T) : Option (List T) := match t with
  | .str z => some (chT z)
  | .lst ts => some ts
  | .sl ts => some ts
  | .tup ts => some ts
  | _ => none
def iSeqA (f : M T) : M (List T) := fun ρ => (f ρ).bind fun t ρ => liftO (seqTA t) ρ
section
variable {X : Cx} {E : XK} {e : Expr} {f : M T}
theorem pi_seqA {tg l : Expr} {tl : TE} (hl : PE X l tl) : PI X tg l (fun σ H R => tl σ H fun x H1 => (∃ z, x = .str z ∧ R (Its z) H1) ∨ ∃ a, x = .ref a ∧ ((∃ xs, SqL X.K H1 a xs) ∧ R (Itl X.K a) H1 ∨ (∃ xs, SqT X.K H1 a xs) ∧ R (Itt X.K a) H1)) := by
  refine ⟨fun pins s σ H R I h => ?_⟩
  refine thn (hl.run pins s σ H _ I h) fun v s1 ⟨y, H1, I1, r1, q1⟩ => ?_
  rcases q1 with ⟨x, ex, q⟩ | ⟨a, e, q⟩
  · subst ex
    obtain ⟨t, rfl⟩ := r1
    cases ha : x.cps.all (· < 128)
    · exact wpAny_pyIter_wide ha (pi_one (tk := s1.toks) I1 _ (turn_str _ x t "str_iterator" (.inr rfl)) ⟨_, Heap.get?_push_size _ rfl, rfl, rfl⟩ q)
    · exact wpAny_pyIter_ascii ha (pi_one (tk := s1.toks) I1 _ (turn_str _ x t "str_ascii_iterator" (.inl rfl)) ⟨_, Heap.get?_push_size _ rfl, rfl, rfl⟩ q)
  · subst e
    cases r1
    rcases q with ⟨⟨xs, hq⟩, q⟩ | ⟨⟨xs, hq⟩, q⟩
    · obtain ⟨its, rv, p, hz⟩ := I1.list hq
      refine wpAny_pyIter_list p.isList ?_
      refine ⟨s1.heap.objs.size, [s1.heap.objs.size], _, _, H1, rfl, I1.kept (t' := s1.toks) fun b o e => Heap.get?_push_of_some _ e, turn_list a _, ⟨_, Heap.get?_push_size _ rfl, rfl, rfl⟩, fun b hb => ?_, q⟩
      have e : b = s1.heap.objs.size := by simpa using hb
      subst e
      exact I1.fpOk (Nat.le_refl _) (I1.hok.fresh (Nat.le_refl _))
    · obtain ⟨its, rv, p, hz⟩ := I1.tuple hq
      refine wpAny_pyIter_tuple (show s1.heap.IsTuple a its.toArray from p) ?_
      refine ⟨s1.heap.objs.size, [s1.heap.objs.size], _, _, H1, rfl, I1.kept (t' := s1.toks) fun b o e => Heap.get?_push_of_some _ e, turn_tuple a _, ⟨_, Heap.get?_push_size _ rfl, rfl, rfl⟩, fun b hb => ?_, q⟩
      have e : b = s1.heap.objs.size := by simpa using hb
      subst e
      exact I1.fpOk (Nat.le_refl _) (I1.hok.fresh (Nat.le_refl _))
theorem fi_seqA {tg : Expr} (h : FE X E e f) : FI X E tg e (iSeqA f) := by
  refine pi_imp (pi_seqA h) fun σ H Q h => ?_
  obtain ⟨k, F, ρ, R, h⟩ := h
  refine ⟨k, F, ρ, R, (Den.bind h).imp fun t ρ1 h1 v F1 H1 R1 s1 r1 => ?_⟩
  obtain ⟨ts, e, q⟩ := Den.lift h1
  have o : (∃ z, t = .str z ∧ ts = chT z) ∨ seqT t = some ts := by
    unfold seqTA at e
    split at e
    · exact .inl ⟨_, rfl, (Option.some.inj e).symm⟩
    · exact .inr e
    · exact .inr e
    · exact .inr e
    · cases e
  rcases o with ⟨z, rfl, rfl⟩ | e
  · cases r1
    refine .inl ⟨z, rfl, q _ F1 H1 R1 s1 ?_⟩
    have w := walk_str (z := z)
    have hl : (chT z).length = z.cps.size := by unfold chT; simp
    unfold Wk
    rw [hl]
    refine w.mono (fun H' s => trivial) fun i H v H' _ _ y => ?_
    obtain ⟨e1, c, e2, rfl⟩ := y
    refine ⟨.str ⟨#[c]⟩, ?_, .inl ⟨e1, rfl⟩⟩
    unfold chT
    rw [List.getElem?_map, Array.getElem?_toList, e2]
    rfl
  · obtain ⟨p, vs, rfl, hs, r⟩ := seqT_rep (Same.refl F1) r1 e
    refine .inr ⟨p, rfl, ?_⟩
    rcases hs with hs | hs
    · refine .inl ⟨⟨vs, same_SqL R1.fh hs⟩, q _ F1 H1 R1 s1 ?_⟩
      have w := walk_list (K := X.K) (a := p) (xs := vs)
      rw [← r.length] at w
      exact w.mono (fun H' s => same_SqL s hs) fun i H v H' _ _ y => yat r y
    · refine .inr ⟨⟨vs, same_SqT0 R1.fh hs⟩, q _ F1 H1 R1 s1 ?_⟩
      have w := walk_tup (K := X.K) (a := p) (xs := vs)
      rw [← r.length] at w
      exact w.mono (fun H' s => same_SqT0 s hs) fun i H v H' _ _ y => yat r y
end
end FL

set_option maxHeartbeats 2000000
/-! FL34: a text's methods of one argument: index, count, join. -/
namespace FL
open PySem PySem.Spec PyProof.Rows L2
section
variable {X : Cx} {E : XK} {ob e : Expr} {fo fe : M T} {apos pos : Pos}
end
end FL

set_option maxHeartbeats 2000000
/-! FL35: join, str(int), len(set(ints)), list.index, list.count, list(range(..)). -/
namespace FL
open PySem PySem.Spec PyProof.Rows L2
/-- the different ones of a list, as they come -/
def metI (ns : List Int) : List Int := PyProof.Rows.firstMet (fun i => ns.getD i 0) ns.length
section
variable {X : Cx} {E : XK} {ob e : Expr} {fo fe fa : M T} {apos cpos pos : Pos}
end
end FL

set_option maxHeartbeats 2000000
/-! FL36: dicts whose keys are ints, texts, or tuples of such. -/
namespace FL
open PySem PySem.Spec PyProof.Rows L2
def keyT (t : T) : Option L2.Key := match t with
  | .int n => some (.inl n)
  | .str z => some (.inr z)
  | _ => none
def keysT : List T → Option (List L2.Key)
  | [] => some []
  | t :: ts => match keyT t, keysT ts with
    | some k, some ks => some (k :: ks)
    | _, _ => none
def tKey : L2.Key → T
  | .inl n => .int n
  | .inr z => .str z
/-! ### tables -/
section
variable {κ : Type} [DecidableEq κ]
def valP : List κ → List T → κ → Option T
  | k' :: ks, t :: ts, k => if k' = k then some t else valP ks ts k
  | _, _, _ => none
def repP : List κ → List T → κ → T → List T
  | k' :: ks, t' :: ts, k, t => (if k' = k then t else t') :: repP ks ts k t
  | _, _, _, _ => []
def putP (ks : List κ) (ts : List T) (k : κ) (t : T) : List κ × List T := if (ks.any fun k' => decide (k' = k)) = true then (ks, repP ks ts k t) else (ks ++ [k], ts ++ [t])
variable {K : PySem.W.Frag} {mg : Str → Option Value} {F : Hp}
theorem val_rep : ∀ {kvs : List (κ × V)} {ts : List T} (k : κ), Reps K mg F ts (kvs.map (·.2)) → match valP (kvs.map (·.1)) ts k with
    | some t => ∃ v, valV kvs k = some v ∧ Rep K mg F t v
    | none => valV kvs k = none
  | [], ts, k, r => by
    have : ts = [] := by
      cases ts with
      | nil => rfl
      | cons t ts => obtain ⟨v, w, e, _⟩ := r; cases e
    subst this
    simp only [List.map_nil, valP]
    rfl
  | p :: kvs, ts, k, r => by
    cases ts with
    | nil => cases r
    | cons t ts =>
      obtain ⟨v, w, e, r1, r2⟩ := r
      rw [List.map_cons] at e
      injection e with e1 e2
      subst e1; subst e2
      simp only [List.map_cons, valP]
      by_cases h : p.1 = k
      · rw [if_pos h]
        exact ⟨p.2, valV_pos h, r1⟩
      · rw [if_neg h, valV_neg h]
        exact val_rep k r2
theorem rep_rep {t : T} {v : V} (h : Rep K mg F t v) : ∀ {kvs : List (κ × V)} {ts : List T} (k : κ), Reps K mg F ts (kvs.map (·.2)) → Reps K mg F (repP (kvs.map (·.1)) ts k t) ((kvs.map fun kv => if kv.1 = k then (kv.1, v) else kv).map (·.2))
  | [], ts, k, r => by
    have : ts = [] := by
      cases ts with
      | nil => rfl
      | cons t ts => obtain ⟨v, w, e, _⟩ := r; cases e
    subst this
    exact .nil
  | p :: kvs, ts, k, r => by
    cases ts with
    | nil => cases r
    | cons t' ts =>
      obtain ⟨v', w, e, r1, r2⟩ := r
      rw [List.map_cons] at e
      injection e with e1 e2
      subst e1; subst e2
      simp only [List.map_cons, repP]
      refine .cons ?_ (rep_rep h k r2)
      by_cases hk : p.1 = k
      · rw [if_pos hk, if_pos hk]; exact h
      · rw [if_neg hk, if_neg hk]; exact r1
theorem put_rep {t : T} {v : V} {kvs : List (κ × V)} {ts : List T} {k : κ} (h : Rep K mg F t v) (r : Reps K mg F ts (kvs.map (·.2))) :
    (putK kvs k v).map (·.1) = (putP (kvs.map (·.1)) ts k t).1 ∧ Reps K mg F (putP (kvs.map (·.1)) ts k t).2 ((putK kvs k v).map (·.2)) := by
  unfold putK putP
  have e : ((kvs.map (·.1)).any fun k' => decide (k' = k)) = kvs.any fun kv => decide (kv.1 = k) := by rw [List.any_map]; rfl
  rw [e]
  split
  · refine ⟨?_, rep_rep h k r⟩
    rw [List.map_map]
    refine List.map_congr_left fun kv _ => ?_
    show (if kv.1 = k then (kv.1, v) else kv).1 = kv.1
    split <;> rfl
  · refine ⟨by simp, ?_⟩
    rw [List.map_append]
    exact r.append (.one h)
end
section
variable {K : PySem.W.Frag} {mg : Str → Option Value} {F : Hp}
theorem keyT_rep {t : T} {v : V} {k : L2.Key} (r : Rep K mg F t v) (e : keyT t = some k) : v = kV k := by
  cases t <;> simp only [keyT, Option.some.injEq, reduceCtorEq] at e <;> subst e <;> exact r
theorem keysT_rep : ∀ {ts : List T} {vs : List V} {ks : List L2.Key}, Reps K mg F ts vs → keysT ts = some ks → vs = ks.map kV
  | [], vs, ks, r, e => by
    simp only [keysT, Option.some.injEq] at e
    subst e; exact r
  | t :: ts, vs, ks, r, e => by
    obtain ⟨v, w, rfl, r1, r2⟩ := r
    simp only [keysT] at e
    split at e
    · rename_i k ks' h1 h2
      cases e
      rw [keyT_rep r1 h1, keysT_rep r2 h2]; rfl
    · cases e
theorem tKey_rep {k : L2.Key} : Rep K mg F (tKey k) (kV k) := by cases k <;> exact rfl
end
def keyB : T → Option BK
  | .tup [.int n, .bl b] => some (n, b)
  | _ => none
/-- what o holds at y; none: not to be asked -/
def getO (o : O) (y : T) : Option (Option T) := match o, y with
  | .dk ks ts, y => (keyT y).map (valP ks ts)
  | .dt ks ts, .tup us => (keysT us).map (valP ks ts)
  | .db ks ts, y => (keyB y).map (valP ks ts)
  | _, _ => none
def OR (K : PySem.W.Frag) (mg : Str → Option Value) (F : Hp) : Option T → Option V → Prop
  | some t, some v => Rep K mg F t v
  | none, none => True
  | _, _ => False
def putO (o : O) (y t : T) : Option O := match o, y with
  | .dk ks ts, y => if ks.length < 16777216 then (keyT y).map fun k => .dk (putP ks ts k t).1 (putP ks ts k t).2 else none
  | .dt ks ts, .tup us => if ks.length < 16777216 then (keysT us).map fun k => .dt (putP ks ts k t).1 (putP ks ts k t).2 else none
  | .db ks ts, y => if ks.length < 16777216 then (keyB y).map fun k => .db (putP ks ts k t).1 (putP ks ts k t).2 else none
  | _, _ => none
section
variable {K : PySem.W.Frag} {mg : Str → Option Value} {F H : Hp}
theorem get_dk {ks : List L2.Key} {ts : List T} {kvs : List (L2.Key × V)} {a : Addr} {y : T} {u : V} {r : Option T} (hd : Rd H a (.dK kvs)) (hk : kvs.map (·.1) = ks) (hr : Reps K mg F ts (kvs.map (·.2))) (ry : Rep K mg F y u) (g : getO (.dk ks ts) y = some r) :
    ∃ r', DGet H a u r' ∧ OR K mg F r r' := by
  simp only [getO, Option.map_eq_some_iff] at g
  obtain ⟨k, ek, rfl⟩ := g
  rw [keyT_rep ry ek]
  have := val_rep k hr
  rw [hk] at this
  refine ⟨valV kvs k, .inl ⟨kvs, k, hd, rfl, rfl⟩, ?_⟩
  cases h : valP ks ts k with
  | none => rw [h] at this; simp only at this; rw [this]; trivial
  | some t => rw [h] at this; simp only at this; obtain ⟨v, e, rv⟩ := this; rw [e]; exact rv
theorem get_dt {ks : List (List L2.Key)} {ts : List T} {kvs : List (List L2.Key × V)} {a : Addr} {y : T} {u : V} {r : Option T} (s : Same F H) (hd : Rd H a (.dT kvs)) (hk : kvs.map (·.1) = ks) (hr : Reps K mg F ts (kvs.map (·.2))) (ry : Rep K mg F y u) (g : getO (.dt ks ts) y = some r) :
    ∃ r', DGet H a u r' ∧ OR K mg F r r' := by
  cases y <;> simp only [getO, Option.map_eq_some_iff, reduceCtorEq] at g
  obtain ⟨k, ek, rfl⟩ := g
  obtain ⟨b, vs, rfl, e1, e2⟩ := ry
  have ev := keysT_rep e2 ek
  subst ev
  have := val_rep k hr
  rw [hk] at this
  refine ⟨valV kvs k, .inr ⟨kvs, k, b, hd, rfl, s _ _ e1, rfl⟩, ?_⟩
  cases h : valP ks ts k with
  | none => rw [h] at this; simp only at this; rw [this]; trivial
  | some t => rw [h] at this; simp only at this; obtain ⟨v, e, rv⟩ := this; rw [e]; exact rv
theorem keyB_rep {y : T} {u : V} {k : BK} (r : Rep K mg F y u) (e : keyB y = some k) : ∃ q, u = .ref q ∧ F q = some (.tup (kbV k)) := by
  unfold keyB at e
  split at e
  · cases e
    obtain ⟨q, vs, e1, e2, e3⟩ := r
    obtain ⟨v1, r1, rfl, h1, h2⟩ := e3
    obtain ⟨v2, r2, rfl, h3, h4⟩ := h2
    obtain rfl : r2 = [] := h4
    refine ⟨q, e1, ?_⟩
    rw [e2]
    obtain rfl : v1 = _ := h1
    obtain rfl : v2 = _ := h3
    rfl
  · cases e
theorem valB_eq (kvs : BKV) (k : BK) : valB kvs k = valV (kvs.map fun p => (p.1, p.2.2)) k := by
  induction kvs with
  | nil => rfl
  | cons p kvs ih =>
    rw [List.map_cons]
    by_cases h : p.1 = k
    · rw [valV_pos (p := (p.1, p.2.2)) h]
      simp [valB, List.find?_cons, h]
    · rw [valV_neg (p := (p.1, p.2.2)) h, ← ih]
      simp [valB, List.find?_cons, h]
theorem putB_eq (kvs : BKV) (k : BK) (q : Addr) (v : V) : (putB kvs k q v).map (fun p => (p.1, p.2.2)) = putK (kvs.map fun p => (p.1, p.2.2)) k v := by
  unfold putB putK
  rw [valV_any, ← valB_eq]
  split
  · rw [List.map_map, List.map_map]
    refine List.map_congr_left fun p _ => ?_
    show (fun p : BK × Addr × V => (p.1, p.2.2)) (if p.1 = k then (p.1, p.2.1, v) else p) = if p.1 = k then (p.1, v) else (p.1, p.2.2)
    split <;> rfl
  · simp
theorem get_db {ks : List BK} {ts : List T} {a a' : Addr} {kvs : BKV} {y : T} {u : V} {r : Option T} (s : Same F H) (hd : Rd H a (dbO a' kvs)) (ka : KAs F kvs) (hk : kvs.map (·.1) = ks) (hr : Reps K mg F ts (kvs.map (·.2.2))) (ry : Rep K mg F y u) (g : getO (.db ks ts) y = some r) :
    ∃ r', DGetX H a u r' ∧ OR K mg F r r' := by
  have g : (keyB y).map (valP ks ts) = some r := by
    cases y <;> exact g
  rw [Option.map_eq_some_iff] at g
  obtain ⟨k, ek, rfl⟩ := g
  obtain ⟨q, rfl, eq⟩ := keyB_rep ry ek
  have := val_rep (kvs := kvs.map fun p => (p.1, p.2.2)) k (by rw [List.map_map]; exact hr)
  rw [← valB_eq, List.map_map] at this
  have e1 : kvs.map ((fun x => x.fst) ∘ fun p : BK × Addr × V => (p.1, p.2.2)) = ks := hk
  rw [e1] at this
  refine ⟨valB kvs k, .inr ⟨a', kvs, k, q, hd, ka.mono fun _ _ z => s _ _ z, rfl, s _ _ eq, rfl⟩, ?_⟩
  cases h : valP ks ts k with
  | none => rw [h] at this; simp only at this; rw [this]; trivial
  | some t => rw [h] at this; simp only at this; obtain ⟨v, e, rv⟩ := this; rw [e]; exact rv
theorem put_o {o o' : O} {h : HO} {a : Addr} {y t : T} {u v : V} (s : Same F H) (ha : H a = some h) (ro : ORep K mg F o h) (ry : Rep K mg F y u) (rt : Rep K mg F t v) (g : putO o y t = some o') :
    ∃ h', DPutX H a u v (upd H a h') ∧ ORep K mg F o' h' := by
  cases o with
  | l ts => cases y <;> cases g
  | dk ks ts =>
    obtain ⟨kvs, rfl, hk, hr⟩ := ro
    simp only [putO] at g
    split at g
    · rename_i hl
      rw [Option.map_eq_some_iff] at g
      obtain ⟨k, ek, rfl⟩ := g
      rw [keyT_rep ry ek]
      obtain ⟨p1, p2⟩ := put_rep (k := k) rt hr
      rw [hk] at p1 p2
      have hkl : kvs.length = ks.length := by rw [← hk, List.length_map]
      exact ⟨_, .inl (DPut.k ha (by rw [szL, hkl]; exact hl)), _, rfl, p1, p2⟩
    · cases g
  | dt ks ts =>
    obtain ⟨kvs, rfl, hk, hr⟩ := ro
    cases y <;> simp only [putO, reduceCtorEq] at g
    split at g
    · rename_i hl
      rw [Option.map_eq_some_iff] at g
      obtain ⟨k, ek, rfl⟩ := g
      obtain ⟨b, vs, rfl, e1, e2⟩ := ry
      have ev := keysT_rep e2 ek
      subst ev
      obtain ⟨p1, p2⟩ := put_rep (k := k) rt hr
      rw [hk] at p1 p2
      have hkl : kvs.length = ks.length := by rw [← hk, List.length_map]
      exact ⟨_, .inl (DPut.t ha (s _ _ e1) (by rw [szL, hkl]; exact hl)), _, rfl, p1, p2⟩
    · cases g
  | db ks ts =>
    obtain ⟨a0, kvs, rfl, ka, hk, hr⟩ := ro
    have g : (if ks.length < 16777216 then (keyB y).map fun k => O.db (putP ks ts k t).1 (putP ks ts k t).2 else none) = some o' := by
      cases y <;> exact g
    split at g
    · rename_i hl
      rw [Option.map_eq_some_iff] at g
      obtain ⟨k, ek, rfl⟩ := g
      obtain ⟨q, rfl, eq⟩ := keyB_rep ry ek
      obtain ⟨p1, p2⟩ := put_rep (kvs := kvs.map fun p => (p.1, p.2.2)) (k := k) rt (by rw [List.map_map]; exact hr)
      rw [← putB_eq _ _ q, List.map_map, List.map_map] at p1
      rw [← putB_eq _ _ q, List.map_map, List.map_map] at p2
      have e1 : kvs.map ((fun x => x.fst) ∘ fun p : BK × Addr × V => (p.1, p.2.2)) = ks := hk
      rw [e1] at p1 p2
      have hkl : kvs.length = ks.length := by rw [← hk, List.length_map]
      exact ⟨_, .inr ⟨kvs, k, q, ⟨a0, ha⟩, ka.mono fun _ _ z => s _ _ z, rfl, s _ _ eq, by rw [szL, hkl]; exact hl, rfl⟩, a, _, rfl, putB_as ka eq, p1, p2⟩
    · cases g
end
/-! ### by a slot -/
def getH (h : Has) (y : T) : Option (Option T) := match h with
  | .t (.dk ks ts) => getO (.dk ks ts) y
  | .t (.dt ks ts) => getO (.dt ks ts) y
  | .t (.db ks ts) => getO (.db ks ts) y
  | .o o => getO o y
  | _ => none
def isDH (h : Has) : Bool := match h with
  | .t (.dk _ _) => true
  | .t (.dt _ _) => true
  | .t (.db _ _) => true
  | .o (.dk _ _) => true
  | .o (.dt _ _) => true
  | .o (.db _ _) => true
  | _ => false
section
variable {X : Cx} {E : XK} {b b2 e : Expr} {fb fc fv : M T} {pos p apos cpos : Pos} {x : Str} {i : Nat} {k : Bk} {F : Hp} {ρ : Env} {σ : L2.St} {H : Hp}
theorem isD_of (R : RSk X k F ρ σ H) (h : isDH (has i ρ) = true) : ∃ a, σ[i]? = some (some (.ref a)) ∧ IsDX H a := by
  cases e : has i ρ with
  | t t =>
    obtain ⟨v, q, r⟩ := R.slot (has_t e)
    rw [e] at h
    cases t <;> first | cases h | skip
    · obtain ⟨a, kvs, rfl, h1, _⟩ := r; exact ⟨a, q, .inl (.inl ⟨kvs, (.inl (R.fh _ _ h1))⟩)⟩
    · obtain ⟨a, kvs, rfl, h1, _⟩ := r; exact ⟨a, q, .inl (.inr ⟨kvs, same_Rd R.fh h1⟩)⟩
    · obtain ⟨a, a', kvs, rfl, h1, _⟩ := r; exact ⟨a, q, .inr ⟨a', kvs, same_Rd R.fh h1⟩⟩
  | o o =>
    obtain ⟨a, h0, q, _, e3, e4, _⟩ := R.own (has_o e)
    rw [e] at h
    cases o with
    | l ts => cases h
    | dk ks ts => obtain ⟨kvs, rfl, _⟩ := e4; exact ⟨a, q, .inl (.inl ⟨kvs, .inl e3⟩)⟩
    | dt ks ts => obtain ⟨kvs, rfl, _⟩ := e4; exact ⟨a, q, .inl (.inr ⟨kvs, .inl e3⟩)⟩
    | db ks ts => obtain ⟨a', kvs, rfl, _⟩ := e4; exact ⟨a, q, .inr ⟨a', kvs, .inl e3⟩⟩
  | no => rw [e] at h; cases h
theorem getH_rep (R : RSk X k F ρ σ H) {y : T} {u : V} {r : Option T} (ry : Rep X.K X.mg F y u) (g : getH (has i ρ) y = some r) : ∃ a r', σ[i]? = some (some (.ref a)) ∧ DGetX H a u r' ∧ OR X.K X.mg F r r' := by
  cases e : has i ρ with
  | t t =>
    obtain ⟨v, q, rr⟩ := R.slot (has_t e)
    rw [e] at g
    cases t <;> first | cases g | skip
    · obtain ⟨a, kvs, rfl, h1, h2, h3⟩ := rr
      obtain ⟨r', g1, g2⟩ := get_dk ((.inl (R.fh _ _ h1))) h2 h3 ry g
      exact ⟨a, r', q, .inl g1, g2⟩
    · obtain ⟨a, kvs, rfl, h1, h2, h3⟩ := rr
      obtain ⟨r', g1, g2⟩ := get_dt R.fh (same_Rd R.fh h1) h2 h3 ry g
      exact ⟨a, r', q, .inl g1, g2⟩
    · obtain ⟨a, a', kvs, rfl, h1, ka, h2, h3⟩ := rr
      obtain ⟨r', g1, g2⟩ := get_db R.fh (same_Rd R.fh h1) ka h2 h3 ry g
      exact ⟨a, r', q, g1, g2⟩
  | o o =>
    obtain ⟨a, h0, q, _, e3, e4, _⟩ := R.own (has_o e)
    rw [e] at g
    cases o with
    | l ts => cases y <;> cases g
    | dk ks ts =>
      obtain ⟨kvs, rfl, h2, h3⟩ := e4
      obtain ⟨r', g1, g2⟩ := get_dk (.inl e3) h2 h3 ry g
      exact ⟨a, r', q, .inl g1, g2⟩
    | dt ks ts =>
      obtain ⟨kvs, rfl, h2, h3⟩ := e4
      obtain ⟨r', g1, g2⟩ := get_dt R.fh (.inl e3) h2 h3 ry g
      exact ⟨a, r', q, .inl g1, g2⟩
    | db ks ts =>
      obtain ⟨a', kvs, rfl, ka, h2, h3⟩ := e4
      obtain ⟨r', g1, g2⟩ := get_db R.fh (.inl e3) ka h2 h3 ry g
      exact ⟨a, r', q, g1, g2⟩
  | no => rw [e] at g; cases g
/-- x[e] -/
def dgA (i : Nat) (f : M T) : M T := fun ρ => if isDH (has i ρ) = true then (f ρ).bind fun y ρ => match getH (has i ρ) y with
  | some (some t) => .ok t ρ
  | _ => .bad else .bad
/-- x.get(e) -/
def dg1A (i : Nat) (f : M T) : M T := fun ρ => if isDH (has i ρ) = true then (f ρ).bind fun y ρ => match getH (has i ρ) y with
  | some (some t) => .ok t ρ
  | some none => .ok .non ρ
  | _ => .bad else .bad
/-- x.get(e, z) -/
def dg2A (i : Nat) (f g : M T) : M T := fun ρ => if isDH (has i ρ) = true then (f ρ).bind fun y ρ => (g ρ).bind fun z ρ => match getH (has i ρ) y with
  | some (some t) => .ok t ρ
  | some none => .ok z ρ
  | _ => .bad else .bad
/-- e in x, e not in x -/
def dinA (n : Bool) (f : M T) (i : Nat) : M T := fun ρ => (f ρ).bind fun y ρ => match getH (has i ρ) y with
  | some o => .ok (.bl (if n = true then !o.isSome else o.isSome)) ρ
  | _ => .bad
theorem OR.isSome {K : PySem.W.Frag} {mg : Str → Option Value} {r : Option T} {r' : Option V} (h : OR K mg F r r') : r.isSome = r'.isSome := by
  cases r <;> cases r' <;> first | rfl | cases h
theorem fe_dgA (hu : X.A.units + 9 < cLine) (hN : X.N[i]? = some x := by rfl) (hb : FE X E b fb) (hv : Vis X.env.scope x := by first | exact Or.inl rfl | exact Or.inr (Or.inl rfl) | exact Or.inr (Or.inr rfl)) (hs : NoSl b := by intro _ _; rfl) (hd : (x == ("__debug__" : Str)) = false := by decide) (hcd : (x == ("__classdict__" : Str)) = false := by decide) :
    FE X E (.Subscript (.Name x p) b pos) (dgA i fb) := by
  refine pe_imp (pe_dgetX hu (pe_var hN hv hd hcd) hb hs) fun σ H Q h => ?_
  obtain ⟨k, F, ρ, R, h⟩ := h
  unfold dgA at h
  split at h
  · rename_i hh
    obtain ⟨a, ev, _⟩ := isD_of R hh
    refine ⟨_, ev, k, F, ρ, R, (Den.bind h).imp fun y ρ1 h1 w F1 H1 R1 s1 r1 => ?_⟩
    split at h1
    · rename_i t g
      obtain ⟨a', r', ev', g1, g2⟩ := getH_rep R1 r1 g
      rw [ev] at ev'; cases ev'
      cases r' with
      | none => exact g2.elim
      | some v => exact ⟨a, v, rfl, g1, h1 v F1 H1 R1 s1 g2⟩
    · exact h1.elim
  · exact h.elim
theorem fe_dg1A (hu : X.A.units + 9 < cLine) (hN : X.N[i]? = some x := by rfl) (hb : FE X E b fb) (hv : Vis X.env.scope x := by first | exact Or.inl rfl | exact Or.inr (Or.inl rfl) | exact Or.inr (Or.inr rfl)) (hm : M1 X (.Name x p) "get" apos b cpos := by exact ⟨rfl, rfl, rfl, rfl⟩) (hd : (x == ("__debug__" : Str)) = false := by decide) (hcd : (x == ("__classdict__" : Str)) = false := by decide) :
    FE X E (.Call (.Attribute (.Name x p) "get" apos) [b] [] cpos) (dg1A i fb) := by
  refine pe_imp (pe_dget1X hu (pe_var hN hv hd hcd) hb hm) fun σ H Q h => ?_
  obtain ⟨k, F, ρ, R, h⟩ := h
  unfold dg1A at h
  split at h
  · rename_i hh
    obtain ⟨a, ev, hD⟩ := isD_of R hh
    refine ⟨_, ev, a, rfl, hD, k, F, ρ, R, (Den.bind h).imp fun y ρ1 h1 w F1 H1 R1 s1 r1 => ?_⟩
    split at h1
    · rename_i t g
      obtain ⟨a', r', ev', g1, g2⟩ := getH_rep R1 r1 g
      rw [ev] at ev'; cases ev'
      cases r' with
      | none => exact g2.elim
      | some v => exact ⟨_, g1, h1 v F1 H1 R1 s1 g2⟩
    · rename_i g
      obtain ⟨a', r', ev', g1, g2⟩ := getH_rep R1 r1 g
      rw [ev] at ev'; cases ev'
      cases r' with
      | none => exact ⟨_, g1, h1 .non F1 H1 R1 s1 rfl⟩
      | some v => exact g2.elim
    · exact h1.elim
  · exact h.elim
theorem fe_dg2A (hu : X.A.units + 9 < cLine) (hN : X.N[i]? = some x := by rfl) (hb : FE X E b fb) (hc : FE X E b2 fc) (hv : Vis X.env.scope x := by first | exact Or.inl rfl | exact Or.inr (Or.inl rfl) | exact Or.inr (Or.inr rfl)) (hm : M2 X (.Name x p) "get" apos b b2 cpos := by exact ⟨rfl, rfl, rfl, rfl⟩) (hd : (x == ("__debug__" : Str)) = false := by decide) (hcd : (x == ("__classdict__" : Str)) = false := by decide) :
    FE X E (.Call (.Attribute (.Name x p) "get" apos) [b, b2] [] cpos) (dg2A i fb fc) := by
  refine pe_imp (pe_dget2X hu (pe_var hN hv hd hcd) hb hc hm) fun σ H Q h => ?_
  obtain ⟨k, F, ρ, R, h⟩ := h
  unfold dg2A at h
  split at h
  · rename_i hh
    obtain ⟨a, ev, hD⟩ := isD_of R hh
    refine ⟨_, ev, a, rfl, hD, k, F, ρ, R, (Den.bind h).imp fun y ρ1 h1 w F1 H1 R1 s1 r1 => ?_⟩
    refine ⟨k, F1, ρ1, R1, (Den.bind h1).imp fun z ρ2 h2 w2 F2 H2 R2 s2 r2 => ?_⟩
    split at h2
    · rename_i t g
      obtain ⟨a', r', ev', g1, g2⟩ := getH_rep R2 (r1.mono s2) g
      rw [ev] at ev'; cases ev'
      cases r' with
      | none => exact g2.elim
      | some v => exact ⟨_, g1, h2 v F2 H2 R2 (s1.trans s2) g2⟩
    · rename_i g
      obtain ⟨a', r', ev', g1, g2⟩ := getH_rep R2 (r1.mono s2) g
      rw [ev] at ev'; cases ev'
      cases r' with
      | none => exact ⟨_, g1, h2 w2 F2 H2 R2 (s1.trans s2) r2⟩
      | some v => exact g2.elim
    · exact h2.elim
  · exact h.elim
/-- x[e] = v -/
def sSetD (i : Nat) (fi fv : M T) : MS := fun ρ => (fv ρ).bind fun t ρ => withOwn i (fun ρ => (fi ρ).bind fun y ρ => match (rdOwn i ρ).bind fun o => putO o y t with
  | some o' => .ok .nx (setOwn i o' ρ)
  | none => .bad) ρ
theorem fs_setD {p2 : Pos} {fi : M T} (hu : X.A.units + 9 < cLine) (hN : X.N[i]? = some x := by rfl) (hv : Vis X.env.scope x := by first | exact Or.inl rfl | exact Or.inr (Or.inl rfl) | exact Or.inr (Or.inr rfl)) (hb : FE X E b fi) (he : FE X E e fv)
    (hs : swapsWith e (some (.Subscript (.Name x p) b p2)) pos.line X.env = pure false := by rfl) (hd : (x == ("__debug__" : Str)) = false := by decide) (hcd : (x == ("__classdict__" : Str)) = false := by decide) :
    FS X E (.Assign [.Subscript (.Name x p) b p2] e pos) (sSetD i fi fv) := by
  refine ps_imp (ps_dputX hu (pe_var hN hv hd hcd) hb he hs) fun D σ H h => ?_
  obtain ⟨k, F, ρ, R, h⟩ := h
  refine ⟨k, F, ρ, R, (Den.bind h).imp fun t ρ1 h1 v F1 H1 R1 s1 r1 => ?_⟩
  obtain ⟨⟨o, ho⟩, h1⟩ := Den.own h1
  obtain ⟨a, h0, es, _⟩ := R1.own ho
  refine ⟨.ref a, es, k, F1, ρ1, R1, (Den.bind h1).imp fun y ρ2 h2 w F2 H2 R2 s2 r2 => ?_⟩
  split at h2
  · rename_i o' e1
    rw [Option.bind_eq_some_iff] at e1
    obtain ⟨o1, eo, ep⟩ := e1
    obtain ⟨h3, e2, e3, e4, mk⟩ := own_two (k' := k) (F := F) (ρ := ρ) (H := H) (h := h0) R2 es eo
    obtain ⟨h', g1, g2⟩ := put_o R2.fh e3 e4 r2 (r1.mono s2) ep
    exact ⟨a, _, rfl, g1, h2 _ F2 _ (mk g2) (s1.trans s2)⟩
  · exact h2.elim
/-! ### new ones, len, list -/
end
theorem units9 {k : Nat} {A : Around} (hr : Room k A) : A.units + 9 < cLine := by have := hr.un; omega
end FL

set_option maxHeartbeats 2000000
/-! FL37: dict comprehensions; sorted, list, len of dicts; displays. -/
namespace FL
open PySem PySem.Spec PyProof.Rows L2
/-! ### {k: v for x in xs if t} -/
section
variable {X : Cx} {E : XK} {e c kx vx : Expr} {es : List Expr} {pos : Pos} {fk fv : M T}
end
/-! ### sorted, list, len -/
def keyD : L2.Key → PyData
  | .inl n => .int n
  | .inr z => .str z
section
variable {X : Cx} {E : XK} {e : Expr} {fa : M T} {p pos : Pos}
end
end FL

set_option maxHeartbeats 2000000
/-! FL38: sorted, list, len of dicts by name; displays; stars; min, max of data. -/
namespace FL
open PySem PySem.Spec PyProof.Rows L2
def one1 (o : T → Option O) (ts : List T) : Option O := match ts with
  | [t] => o t
  | _ => none
section
variable {X : Cx} {E : XK} {e kx vx : Expr} {es : List Expr} {f fa fk fv : M T} {fs : M (List T)} {p pos apos : Pos} {x : Str} {i : Nat}
theorem xok_b {k k' : Bk} {x : Ex} (hb : Same k.B k'.B) (h0 : k.F0 = k'.F0) (hp : k.pm = k'.pm) (h : XOk X.K X.mg k E x) : XOk X.K X.mg k' E x := by
  obtain ⟨B, F0, pm, r1⟩ := k
  obtain ⟨B', F0', pm', r2⟩ := k'
  cases h0; cases hp
  have lv : ∀ {H' : Hp}, Lv X.K X.mg ⟨B', F0, pm, r2⟩ H' → Lv X.K X.mg ⟨B, F0, pm, r1⟩ H' := fun l => ⟨fun a o e => l.1 a o (hb a o e), l.2⟩
  cases x with
  | mk c arg =>
    cases arg with
    | none => exact fun C H' m l => h C H' m (lv l)
    | some ft => obtain ⟨f, t⟩ := ft; exact fun C d v F' H' m l => h C d v F' H' m (lv l)
end
/-! ### min, max of data -/
mutual
def plT : T → Bool
  | .non => true | .bl _ => true | .int _ => true | .str _ => true
  | .lst ts => plTs ts
  | .tup ts => plTs ts
  | _ => false
def plTs : List T → Bool
  | [] => true
  | t :: ts => plT t && plTs ts
end
end FL

set_option maxHeartbeats 2000000
/-! FL39: min, max of lists and tuples of data. -/
namespace FL
open PySem PySem.Spec PyProof.Rows L2
section
variable {X : Cx} {E : XK} {e : Expr} {es : List Expr} {fs : M (List T)} {pos : Pos}
end
end FL

set_option maxHeartbeats 2000000
/-! FL40: several names of any kind, each given a value of its own. -/
namespace FL
open PySem PySem.Spec PyProof.Rows L2
section
variable {X : Cx} {E : XK} {fs : M (List VO)} {pos : Pos}
end
end FL

set_option maxHeartbeats 2000000
/-! FL41: new dicts walked; displays of two. -/
namespace FL
open PySem PySem.Spec PyProof.Rows L2
section
variable {X : Cx} {E : XK} {tg e kx vx kx2 vx2 : Expr} {pos : Pos} {te : TE} {fk fv fk2 fv2 : M T} {fo : M O}
end
end FL
namespace FL
open PySem PySem.Spec PyProof.Rows L2
section
variable {X : Cx} {E : XK} {b : Expr} {pos p : Pos} {fb : M T} {i : Nat} {x : Str}
theorem ft_dnin (hu : X.A.units + 9 < cLine) (hb : FE X E b fb) (hN : X.N[i]? = some x := by rfl) (hv : Vis X.env.scope x := by first | exact Or.inl rfl | exact Or.inr (Or.inl rfl) | exact Or.inr (Or.inr rfl)) (hm : behindInMarks .NotIn (Expr.Name x p) = false := by rfl) (hd : (x == ("__debug__" : Str)) = false := by decide) (hcd : (x == ("__classdict__" : Str)) = false := by decide) :
    FT X E (.Compare b [.NotIn] [.Name x p] pos) (tst (dinA true fb i)) := by
  refine pt_imp (pt_cmp (pc_dnotinX hu hb (pe_var hN hv hd hcd)) hm) fun σ H Q h => ?_
  obtain ⟨k, F, ρ, R, h⟩ := h
  unfold tst at h
  refine ⟨k, F, ρ, R, (Den.bind (Den.bind h)).imp fun y ρ1 h1 w F1 H1 R1 s1 r1 => ?_⟩
  split at h1
  · rename_i o g
    obtain ⟨a, r', ev, g1, g2⟩ := getH_rep R1 r1 g
    refine ⟨_, ev, a, r', rfl, g1, ?_⟩
    rw [← g2.isSome]
    exact ⟨_, rfl, h1 F1 H1 R1 s1⟩
  · exact h1.elim
end
end FL

set_option maxHeartbeats 2000000
/-! FL42: x[::-1] of a list. -/
namespace FL
open PySem PySem.Spec PyProof.Rows L2
section
variable {X : Cx} {E : XK} {e st : Expr} {te ts : TE} {pos p2 : Pos} {fa fb : M T}
end
end FL

/-! FL43: zip(*e), walked by one name. -/
namespace FL
open PySem PySem.Spec L2 PyProof.Rows
section
variable {M : Model} {A : Around} {E : Value → Shared → Prop}
end
/-- what is zipped: whether a list, where it lies, its items -/
abbrev ZR := Bool × Addr × Array Value
def refsFrom (n k : Nat) : List Value := (List.range k).map fun i => Value.ref (n + i)
theorem SqAt.keep {c : Bool} {h h' : Heap} {a : Addr} {items : Array Value} (x : SqAt c h a items) (k : ∀ o, h.get? a = some o → h'.get? a = some o) : SqAt c h' a items := by
  cases c with
  | true => exact (show h.IsList a items from x).at k
  | false => exact (show h.IsTuple a items from x).at k
section
variable {prog : Program} {w : World} {A : Around} {E : Value → Shared → Prop} {s : Shared}
def tupObj (xs : List Value) : Obj := { cls := .type "tuple", data := .seq xs.toArray }
theorem sbx {x : Nat} {h h' : Heap} (hs : Heap.SameBut x h h') (c : Nat) (o : Obj) (n : c ≠ x) (e : h.get? c = some o) : h'.get? c = some o := hs.extBut c o n e
/-- a zip under way, behind i turns -/
structure ZN (bs : List ZR) (base : Nat) (h : Heap) (T : Value) (f : Bool) (i : Nat) : Prop where
  z : h.get? (base + bs.length + 2) = some { cls := .type "zip", dict := none, data := .fields #[T, .bool f, .bool false, .ref (base + bs.length), .ref (base + bs.length + 1)], slots := #[] }
  ti : h.get? (base + bs.length) = some (tupObj (refsFrom base bs.length))
  to : ∃ us, h.get? (base + bs.length + 1) = some (tupObj us) ∧ us.length = bs.length
  it : ∀ (k : Nat) r, bs[k]? = some r → ItAt r.1 h (base + k) r.2.1 i
/-- within a turn, behind j of the iterators -/
structure ZM (bs : List ZR) (base : Nat) (h0 g : Heap) (i j : Nat) : Prop where
  it : ∀ (k : Nat) r, bs[k]? = some r → ItAt r.1 g (base + k) r.2.1 (if k < j then i + 1 else i)
  sq : ∀ r ∈ bs, SqAt r.1 g r.2.1 r.2.2
  keep : ∀ (c : Nat) o, (c < base ∨ base + bs.length + 2 < c) → h0.get? c = some o → g.get? c = some o
  size : g.objs.size = h0.objs.size
theorem ZM.same {bs : List ZR} {base : Nat} {h0 g g' : Heap} {i j : Nat} {x : Nat} (M : ZM bs base h0 g i j) (hs : Heap.SameBut x g g') (hlo : ∀ r ∈ bs, @LT.lt Nat _ r.2.1 base) (h1 : base + bs.length ≤ x) (h2 : x ≤ base + bs.length + 2) : ZM bs base h0 g' i j :=
  ⟨fun k r e => (M.it k r e).keep fun o q => sbx hs _ _ (by have := (List.getElem?_eq_some_iff.mp e).1; omega) q, fun r m => (M.sq r m).keep fun o q => sbx hs _ _ (by have := hlo r m; omega) q, fun c o q e => sbx hs _ _ (by omega) (M.keep c o q e), by rw [hs.1]; exact M.size⟩
end
end FL

/-! FL44: zip(*e), the rest. -/
namespace FL
open PySem PySem.Spec L2 PyProof.Rows
section
variable {prog : Program} {w : World} {A : Around} {E : Value → Shared → Prop} {s : Shared}
end
/-! ### the walk -/
abbrev VR := Bool × Addr × List V
/-- rows as values, and as they stand in the heap -/
def RB (h : Heap) : List VR → List ZR → Prop
  | [], bs => bs = []
  | r :: rs, bs => ∃ b cs, bs = b :: cs ∧ b.1 = r.1 ∧ b.2.1 = r.2.1 ∧ SqAt b.1 h b.2.1 b.2.2 ∧ Vals r.2.2 b.2.2.toList ∧ RB h rs cs
section
variable {h : Heap}
theorem RB.len : ∀ {rs : List VR} {bs : List ZR}, RB h rs bs → bs.length = rs.length
  | [], bs, e => by
    have e : bs = [] := e
    subst e; rfl
  | r :: rs, bs, e => by
    obtain ⟨b, cs, rfl, _, _, _, _, q⟩ := e
    simp [RB.len q]
theorem RB.get : ∀ {rs : List VR} {bs : List ZR} {k : Nat} {r : VR}, RB h rs bs → rs[k]? = some r → ∃ b, bs[k]? = some b ∧ b.1 = r.1 ∧ b.2.1 = r.2.1
  | r :: rs, bs, 0, r', e, hk => by
    cases hk
    obtain ⟨b, cs, rfl, e1, e2, _⟩ := e
    exact ⟨b, rfl, e1, e2⟩
  | r :: rs, bs, k + 1, r', e, hk => by
    obtain ⟨b, cs, rfl, _, _, _, _, q⟩ := e
    exact RB.get (k := k) q hk
end
end FL

set_option maxHeartbeats 2000000
/-! FL45: any of lists and tuples of data. -/
namespace FL
open PySem PySem.Spec PyProof.Rows L2
section
variable {X : Cx}
end
end FL

set_option maxHeartbeats 2000000
/-! FL46: zip(a, b) walked by one name. -/
namespace FL
open PySem PySem.Spec PyProof.Rows L2 FL.ZN
end FL

set_option maxHeartbeats 2000000
/-! FL47: dict comprehensions whose keys are tuples, of one and of two clauses: what the model does. -/
namespace FL
open PySem PySem.Spec PyProof.Rows L2
section
variable {X : Cx}
end
section
variable {prog : Program} {w : World} {A : Around} {R : Result → Shared → Prop} {s : Shared} {kx vx t0 i0 t1 i1 : Expr} {ifs0 ifs1 : List Expr} {scope : Scope} {pos : Pos} {it : Value} {D : Addr} {env : PySem.Env}
end

section
variable {X : Cx}
end
end FL

set_option maxHeartbeats 2000000
/-! FL48: {k: v for x in a if p [for y in b if q]}, the keys tuples. -/
namespace FL
open PySem PySem.Spec PyProof.Rows L2
section
variable {X : Cx} {E : XK} {fk fv : M T}
end
end FL

set_option maxHeartbeats 2000000
/-! FL49: the keys of a dict, where they are tuples. -/
namespace FL
open PySem PySem.Spec PyProof.Rows L2
def tupKey (k : List L2.Key) : T := .tup (k.map tKey)
theorem reps_tkeys {K : PySem.W.Frag} {mg : Str → Option Value} {F : Hp} : ∀ k : List L2.Key, Reps K mg F (k.map tKey) (k.map kV)
  | [] => .nil
  | k :: ks => .cons tKey_rep (reps_tkeys ks)
section
variable {X : Cx} {k : Bk} {F H : Hp} {ρ : FL.Env} {σ : L2.St}
open Classical in
/-- tuples that stand in the heap are trees -/
noncomputable def addT (F H : Hp) (bs : List Addr) : Hp := fun a => if a ∈ bs then H a else F a
theorem addT_in {bs : List Addr} {a : Addr} (h : a ∈ bs) : addT F H bs a = H a := by unfold addT; exact if_pos h
theorem addT_out {bs : List Addr} {a : Addr} (h : a ∉ bs) : addT F H bs a = F a := by unfold addT; exact if_neg h
theorem addT_same {bs : List Addr} (s : Same F H) : Same F (addT F H bs) := fun a o e => by
  by_cases m : a ∈ bs
  · rw [addT_in m]; exact s _ _ e
  · rw [addT_out m]; exact e
theorem RS.addT {bs : List Addr} (R : RSk X k F ρ σ H) (ht : ∀ b ∈ bs, ∃ vs, H b = some (.tup vs)) : RSk X k (FL.addT F H bs) ρ σ H := by
  have sF := addT_same (bs := bs) R.fh
  have out : ∀ a o, H a = some o → (∀ vs, o ≠ .tup vs) → a ∉ bs := fun a o e n m => by
    obtain ⟨vs, e2⟩ := ht a m
    rw [e] at e2
    exact n vs (Option.some.inj e2)
  obtain ⟨α, h1, h2⟩ := R.ex
  refine ⟨R.len, fun a o e => ?_, R.bh, R.f0.trans sF, fun a o e => ?_, R.pt, ⟨R.tb.x, fun P q => ?_, R.tb.b⟩, α, fun i x hx => ?_, h2⟩
  · by_cases m : a ∈ bs
    · rw [addT_in m] at e; exact e
    · rw [addT_out m] at e; exact R.fh _ _ e
  · by_cases m : a ∈ bs
    · rw [addT_in m] at e
      obtain ⟨vs, e2⟩ := ht a m
      rw [e2] at e
      exact .inr (.inr ⟨vs, (Option.some.inj e).symm⟩)
    · rw [addT_out m] at e; exact R.fr _ _ e
  · rw [addT_out]
    · exact R.tb.f P q
    · intro m
      obtain ⟨vs, e2⟩ := ht P m
      obtain ⟨ps, z1, _⟩ := R.tb.x P q
      rw [z1] at e2; cases e2
  · have q := h1 i x hx
    cases x with
    | un => trivial
    | fz t => obtain ⟨v, a, b⟩ := q; exact ⟨v, a, b.mono sF⟩
    | raw n => exact q
    | ow o => obtain ⟨a, b, c, d, h, e1, e2⟩ := q; exact ⟨a, by rw [addT_out (out _ _ e1 e2.ntup)]; exact b, c, d, h, e1, e2.mono sF⟩
    | pa o => obtain ⟨a, b, c, d, h, e1, e2⟩ := q; exact ⟨a, by rw [addT_out (out _ _ e1 e2.ntup)]; exact b, c, d, h, e1, e2.mono sF⟩
theorem isKeys_tup {H : Hp} {kvs : List (List L2.Key × V)} {bs : List Addr} (h : IsKeys H kvs bs) : ∀ b ∈ bs, ∃ vs, H b = some (.tup vs) := by
  unfold IsKeys at h
  induction h with
  | nil => intro b m; cases m
  | @cons p q ps qs hq t ih =>
    intro b m
    rcases List.mem_cons.mp m with rfl | m
    · exact ⟨_, hq⟩
    · exact ih b m
theorem isKeys_reps {K : PySem.W.Frag} {mg : Str → Option Value} {F H : Hp} {kvs : List (List L2.Key × V)} {bs : List Addr} (h : IsKeys H kvs bs) (hf : ∀ b ∈ bs, F b = H b) : Reps K mg F (kvs.map fun p => tupKey p.1) (bs.map V.ref) := by
  unfold IsKeys at h
  induction h with
  | nil => exact .nil
  | @cons p q ps qs hq t ih =>
    refine .cons ⟨q, p.1.map kV, rfl, by rw [hf q List.mem_cons_self]; exact hq, reps_tkeys _⟩ (ih fun b m => hf b (List.mem_cons_of_mem _ m))
/-- the keys as trees -/
theorem RS.keys {kvs : List (List L2.Key × V)} {bs : List Addr} (R : RSk X k F ρ σ H) (h : IsKeys H kvs bs) : ∃ F', Same F F' ∧ RSk X k F' ρ σ H ∧ Reps X.K X.mg F' (kvs.map fun p => tupKey p.1) (bs.map V.ref) :=
  ⟨FL.addT F H bs, addT_same R.fh, R.addT (isKeys_tup h), isKeys_reps h fun b m => addT_in m⟩
end
section
variable {X : Cx} {E : XK} {e : Expr} {es : List Expr} {fs : M (List T)} {p pos : Pos}
end
end FL

set_option maxHeartbeats 2000000
/-! FL50: x = {k: v for ..}, the keys tuples. -/
namespace FL
open PySem PySem.Spec PyProof.Rows L2
section
variable {X : Cx}
end
section
variable {X : Cx} {E : XK} {a : Expr} {fa : M T} {pos p : Pos} {x : Str} {i : Nat}
end
end FL

set_option maxHeartbeats 2000000
/-! FL51: sorted(d), the keys tuples. -/
namespace FL
open PySem PySem.Spec PyProof.Rows L2
def tupD (k : List L2.Key) : PyData := .tuple (k.map keyD)
section
variable {X : Cx}
end
end FL

set_option maxHeartbeats 2000000
/-! FL52: sorted(d) as trees, the keys tuples. -/
namespace FL
open PySem PySem.Spec PyProof.Rows L2
section
variable {X : Cx} {E : XK} {e : Expr} {es : List Expr} {fs : M (List T)} {p pos : Pos}
end
end FL

set_option maxHeartbeats 2000000
/-! FL53: d.setdefault(k, v), the keys tuples. -/
namespace FL
open PySem PySem.Spec PyProof.Rows L2
section
variable {X : Cx} {pins : List (Addr × Obj)} {σ : L2.St} {H : Hp} {s : Shared} {a b : Addr} {r : Value} {d : V} {E : Value → Shared → Prop}
end
section
variable {X : Cx} {o e f : Expr} {td ty tx : TE} {apos cpos : Pos}
end
section
variable {X : Cx} {E : XK} {x : Str} {i : Nat} {b b2 : Expr} {fb fc : M T} {p apos cpos : Pos}
end
end FL

set_option maxHeartbeats 2000000
/-! FL54: zip(a, b) as the argument of dict(). -/
namespace FL
open PySem PySem.Spec L2 PyProof.Rows
section
variable {prog : Program} {w : World}
end
end FL

set_option maxHeartbeats 2000000
/-! FL55: dict(zip(a, b)), a's items tuples, all different. -/
namespace FL
open PySem PySem.Spec PyProof.Rows L2
end FL

set_option maxHeartbeats 2000000
/-! FL56: dict(zip(a, b)) as trees. -/
namespace FL
open PySem PySem.Spec PyProof.Rows L2
section
variable {X : Cx} {E : XK} {e e2 : Expr} {fs : M (List T)} {p p2 q pos : Pos}
end
end FL

set_option maxHeartbeats 2000000
/-! HL1: a store of lists that are changed through several names; expressions that read it. -/
namespace FL.HL
open PySem PySem.Spec PyProof.Rows L2 FL
/-- a value in the store: a tree that stays, or the n-th list of the store -/
inductive HV where
  | t (x : T) | r (n : Nat)
abbrev Sto := List (List HV)
def HRep (K : PySem.W.Frag) (mg : Str → Option Value) (F : Hp) (al : List Addr) : HV → V → Prop
  | .t x, v => Rep K mg F x v
  | .r n, v => ∃ a, al[n]? = some a ∧ v = .ref a
def HReps (K : PySem.W.Frag) (mg : Str → Option Value) (F : Hp) (al : List Addr) : List HV → List V → Prop
  | [], vs => vs = []
  | x :: xs, vs => ∃ v r, vs = v :: r ∧ HRep K mg F al x v ∧ HReps K mg F al xs r
section
variable {K : PySem.W.Frag} {mg : Str → Option Value} {F F' : Hp} {al al' : List Addr}
theorem HRep.mono {x : HV} {v : V} (h : HRep K mg F al x v) (s : Same F F') : HRep K mg F' al x v := by
  cases x with
  | t x => exact (show Rep K mg F x v from h).mono s
  | r n => exact h
theorem HReps.mono (s : Same F F') : ∀ {xs : List HV} {vs : List V}, HReps K mg F al xs vs → HReps K mg F' al xs vs
  | [], _, h => h
  | _ :: _, _, ⟨v, r, e, h, hs⟩ => ⟨v, r, e, h.mono s, HReps.mono s hs⟩
theorem HRep.more {x : HV} {v : V} (h : HRep K mg F al x v) (b : List Addr) : HRep K mg F (al ++ b) x v := by
  cases x with
  | t x => exact h
  | r n =>
    obtain ⟨a, e, q⟩ := h
    exact ⟨a, by rw [List.getElem?_append_left (List.getElem?_eq_some_iff.mp e).1]; exact e, q⟩
theorem HReps.more (b : List Addr) : ∀ {xs : List HV} {vs : List V}, HReps K mg F al xs vs → HReps K mg F (al ++ b) xs vs
  | [], _, h => h
  | _ :: _, _, ⟨v, r, e, h, hs⟩ => ⟨v, r, e, h.more b, HReps.more b hs⟩
theorem HReps.length : ∀ {xs : List HV} {vs : List V}, HReps K mg F al xs vs → xs.length = vs.length
  | [], vs, h => by
    have e : vs = [] := h
    subst e; rfl
  | _ :: _, _, ⟨v, r, e, _, hs⟩ => by rw [e, List.length_cons, List.length_cons, HReps.length hs]
theorem HReps.get : ∀ {xs : List HV} {vs : List V} {i : Nat} {x : HV}, HReps K mg F al xs vs → xs[i]? = some x → ∃ v, vs[i]? = some v ∧ HRep K mg F al x v
  | _ :: _, _, 0, x, ⟨v, r, e, h, _⟩, hx => by
    cases hx; subst e; exact ⟨v, rfl, h⟩
  | _ :: _, _, i + 1, x, ⟨v, r, e, _, hs⟩, hx => by
    subst e; exact HReps.get (i := i) hs hx
theorem HReps.set {x : HV} {v : V} (hx : HRep K mg F al x v) : ∀ {xs : List HV} {vs : List V} (i : Nat), HReps K mg F al xs vs → HReps K mg F al (xs.set i x) (vs.set i v)
  | [], vs, _, h => by
    have e : vs = [] := h
    subst e; exact rfl
  | _ :: _, _, 0, ⟨u, r, e, h, hs⟩ => by subst e; exact ⟨v, r, rfl, hx, hs⟩
  | _ :: _, _, i + 1, ⟨u, r, e, h, hs⟩ => by subst e; exact ⟨u, _, rfl, h, HReps.set hx i hs⟩
end
/-- the store stands in the heap, among what a reading keeps -/
structure KS0 (K : PySem.W.Frag) (mg : Str → Option Value) (k : Bk) (F : Hp) (al : List Addr) (μ : Sto) : Prop where
  rw : k.rw = al.map V.ref
  nd : al.Nodup
  len : al.length = μ.length
  pm : k.pm = none
  st : ∀ (n : Nat) (a : Addr) (xs : List HV), al[n]? = some a → μ[n]? = some xs → k.F0 a = none ∧ ∃ ws, k.B a = some (.lst ws) ∧ HReps K mg F al xs ws
abbrev KS (X : Cx) (k : Bk) (F : Hp) (al : List Addr) (μ : Sto) : Prop := KS0 X.K X.mg k F al μ
section
variable {X : Cx} {k : Bk} {F F' : Hp} {al : List Addr} {μ : Sto}
theorem KS.mono (S : KS X k F al μ) (s : Same F F') : KS X k F' al μ := ⟨S.rw, S.nd, S.len, S.pm, fun n a xs h1 h2 => by
  obtain ⟨q, ws, b, r⟩ := S.st n a xs h1 h2
  exact ⟨q, ws, b, r.mono s⟩⟩
/-- of a raw slot: its address -/
theorem KS.raw {ρ : Env} {σ : L2.St} {H : Hp} {i n : Nat} (S : KS X k F al μ) (R : RSk X k F ρ σ H) (h : ρ[i]? = some (.raw n)) : ∃ a, al[n]? = some a ∧ σ[i]? = some (some (.ref a)) := by
  obtain ⟨α, h1, _⟩ := R.ex
  obtain ⟨v, e1, e2⟩ := h1 i _ h
  rw [S.rw, List.getElem?_map, Option.map_eq_some_iff] at e2
  obtain ⟨a, e, rfl⟩ := e2
  exact ⟨a, e, e1⟩
/-- the n-th list, in the heap -/
theorem KS.cell {ρ : Env} {σ : L2.St} {H : Hp} {n : Nat} {xs : List HV} (S : KS X k F al μ) (R : RSk X k F ρ σ H) (h : μ[n]? = some xs) : ∃ a ws, al[n]? = some a ∧ H a = some (.lst ws) ∧ HReps X.K X.mg F al xs ws := by
  have hl : n < al.length := by rw [S.len]; exact (List.getElem?_eq_some_iff.mp h).1
  obtain ⟨_, ws, b, r⟩ := S.st n al[n] xs (List.getElem?_eq_getElem hl) h
  exact ⟨al[n], ws, List.getElem?_eq_getElem hl, R.bh _ _ b, r⟩
end
abbrev HM (α : Type) := Sto → M α
section
variable {X : Cx} {E : XK} {a b c e : Expr} {es : List Expr} {fa fb f : HM T} {fr : HM Nat} {fs : HM (List T)} {f0 : M T} {pos : Pos}
/-- len of a list of the store -/
def hlen (fr : HM Nat) : HM T := fun μ ρ => (fr μ ρ).bind fun n ρ => match μ[n]? with
  | some xs => .ok (.int xs.length) ρ
  | none => .bad
end
end FL.HL

set_option maxHeartbeats 2000000
/-! HL2: statements over the store. -/
namespace FL.HL
open PySem PySem.Spec PyProof.Rows L2 FL
/-- what lies outside the store is as it was; new lists stand behind the old ones -/
structure Ext (k : Bk) (al : List Addr) (k' : Bk) (al' : List Addr) : Prop where
  pre : ∃ b, al' = al ++ b
  f0 : k'.F0 = k.F0
  pm : k'.pm = k.pm
  out : ∀ a, a ∉ al' → k'.B a = k.B a
  new : ∀ a, a ∈ al' → a ∉ al → k.B a = none
theorem Ext.refl (k : Bk) (al : List Addr) : Ext k al k al := ⟨⟨[], (List.append_nil _).symm⟩, rfl, rfl, fun _ _ => rfl, fun _ m n => absurd m n⟩
theorem Ext.trans {k k1 k2 : Bk} {al al1 al2 : List Addr} (h : Ext k al k1 al1) (g : Ext k1 al1 k2 al2) : Ext k al k2 al2 := by
  obtain ⟨b, e⟩ := h.pre
  obtain ⟨c, e'⟩ := g.pre
  have up : ∀ a, a ∉ al2 → a ∉ al1 := fun a n m => n (by rw [e']; exact List.mem_append_left _ m)
  refine ⟨⟨b ++ c, by rw [e', e, List.append_assoc]⟩, g.f0.trans h.f0, g.pm.trans h.pm, fun a n => ?_, fun a m n => ?_⟩
  · rw [g.out a n, h.out a (up a n)]
  · by_cases m1 : a ∈ al1
    · exact h.new a m1 n
    · rw [← h.out a m1]; exact g.new a m m1
/-- what lies outside the store stays -/
theorem Ext.keep {k k1 : Bk} {al al1 : List Addr} (h : Ext k al k1 al1) {a : Addr} {o : HO} (e : k.B a = some o) (n : a ∉ al) : k1.B a = some o := by
  by_cases m : a ∈ al1
  · rw [h.new a m n] at e; cases e
  · rw [h.out a m]; exact e
/-- the trees, and the store's lists -/
def onF (al : List Addr) (F H : Hp) : Hp := fun a => if a ∈ al then H a else F a
inductive HFl where
  | nx | rt (v : HV) | rtT (vs : List HV) | bk | ct | rtF (t : T)
def PostH (X : Cx) (k : Bk) (al : List Addr) (F : Hp) (D : Ends) (r : HFl × Sto) (ρ' : Env) : Prop := match r with
  | (.nx, μ') => ∀ k' al' σ' F' H', Ext k al k' al' → RSk X k' F' ρ' σ' H' → KS X k' F' al' μ' → Same F F' → D.nx σ' H'
  | (.bk, μ') => ∀ k' al' σ' F' H', Ext k al k' al' → RSk X k' F' ρ' σ' H' → KS X k' F' al' μ' → Same F F' → D.bk σ' H'
  | (.ct, μ') => ∀ k' al' σ' F' H', Ext k al k' al' → RSk X k' F' ρ' σ' H' → KS X k' F' al' μ' → Same F F' → D.ct σ' H'
  | (.rt x, μ') => ∀ k' al' σ' F' H' v, Ext k al k' al' → RSk X k' F' ρ' σ' H' → KS X k' F' al' μ' → Same F F' → HRep X.K X.mg F' al' x v → D.rt v H'
  | (.rtT xs, μ') => ∀ k' al' σ' F' H' a vs, Ext k al k' al' → RSk X k' F' ρ' σ' H' → KS X k' F' al' μ' → Same F F' → HReps X.K X.mg F' al' xs vs → F' a = some (.tup vs) → D.rt (.ref a) H'
  | (.rtF t, μ') => ∀ k' al' σ' F' H', Ext k al k' al' → RSk X k' F' ρ' σ' H' → KS X k' F' al' μ' → Same F F' → ∀ v F3 H3, Same F3 H3 → Same (hideTab X.K X.mg H') H3 → Tb X.K X.mg F3 (hideTab X.K X.mg H') H3 → Same (onF al' F' H') F3 → (∀ a o, F3 a = some o → (∃ u, onF al' F' H' a = some u) ∨ NB (hideTab X.K X.mg H') a o) → Rep X.K X.mg F3 t v → D.rt v H3
theorem PostH.ext {X : Cx} {k k1 : Bk} {al al1 : List Addr} {F F1 : Hp} {D : Ends} {r : HFl × Sto} {ρ : Env} (e : Ext k al k1 al1) (s : Same F F1) (h : PostH X k al F D r ρ) : PostH X k1 al1 F1 D r ρ := by
  obtain ⟨fl, μ⟩ := r
  cases fl with
  | nx => exact fun k' al' σ' F' H' x R S s' => h k' al' σ' F' H' (e.trans x) R S (s.trans s')
  | bk => exact fun k' al' σ' F' H' x R S s' => h k' al' σ' F' H' (e.trans x) R S (s.trans s')
  | ct => exact fun k' al' σ' F' H' x R S s' => h k' al' σ' F' H' (e.trans x) R S (s.trans s')
  | rt y => exact fun k' al' σ' F' H' v x R S s' r => h k' al' σ' F' H' v (e.trans x) R S (s.trans s') r
  | rtT ys => exact fun k' al' σ' F' H' a vs x R S s' r t => h k' al' σ' F' H' a vs (e.trans x) R S (s.trans s') r t
  | rtF t => exact fun k' al' σ' F' H' x R S s' => h k' al' σ' F' H' (e.trans x) R S (s.trans s')
abbrev MH := Sto → M (HFl × Sto)
/-- exceptions are not covered here -/
def noXH (_ : Ex) : Prop := False
section
variable {X : Cx} {E : XK} {e c : Expr} {pos : Pos} {f0 : MS} {st : Stmt} {sts a b : List Stmt} {s1 s2 : MH} {g : HM Bool} {f : HM T}
end
end FL.HL

set_option maxHeartbeats 2000000
/-! HL3: loops over the store. -/
namespace FL.HL
open PySem PySem.Spec PyProof.Rows L2 FL
section
variable {X : Cx} {E : XK} {e c tg iter : Expr} {pos : Pos} {body : List Stmt} {src : HM (List T)} {src0 : M (List T)} {g : MG} {is : List Nat} {sb : MH} {gt : HM Bool}
end
end FL.HL

set_option maxHeartbeats 2000000
/-! HL4: slots given references; cells of the store written; new cells. -/
namespace FL.HL
open PySem PySem.Spec PyProof.Rows L2 FL
section
variable {X : Cx} {k : Bk} {F : Hp} {ρ : Env} {σ : L2.St} {H : Hp} {al : List Addr} {μ : Sto}
theorem KS.fresh {a b : Addr} {n : Nat} (S : KS X k F al μ) (R : RSk X k F ρ σ H) (na : H a = none) (h : al[n]? = some b) : b ≠ a := fun z => by
  subst z
  have hl : n < μ.length := by rw [← S.len]; exact (List.getElem?_eq_some_iff.mp h).1
  obtain ⟨_, ws, e, _⟩ := S.st n b μ[n] h (List.getElem?_eq_getElem hl)
  rw [R.bh _ _ e] at na; cases na
end
end FL.HL

set_option maxHeartbeats 2000000
/-! HL5: items of the store's lists as targets. -/
namespace FL.HL
open PySem PySem.Spec PyProof.Rows L2 FL
section
variable {X : Cx} {E : XK} {e i : Expr} {es : List Expr} {pos : Pos} {f : HM T} {fr : HM Nat} {fi : HM T} {fv : HM HV} {fs : HM (List HV)} {gs : List HV → HM Sto}
end
end FL.HL

set_option maxHeartbeats 2000000
/-! HL6: line[c] op= e. -/
namespace FL.HL
open PySem PySem.Spec PyProof.Rows L2 FL
section
variable {X : Cx} {E : XK} {b e o : Expr} {pos p2 : Pos} {fi f : HM T} {fr : HM Nat}
end
end FL.HL

set_option maxHeartbeats 2000000
/-! HL7: expressions that make lists of the store. -/
namespace FL.HL
open PySem PySem.Spec PyProof.Rows L2 FL
section
variable {X : Cx} {E : XK} {e : Expr} {es : List Expr} {f0 : M O} {fv : HM HV} {k : Bk} {F : Hp} {ρ : Env} {σ : L2.St} {H : Hp} {al : List Addr} {μ : Sto}
def tHN (X : Cx) (f : Sto → M (HV × Sto)) : TE := fun σ H Q => ∃ k al F ρ μ, RSk X k F ρ σ H ∧ KS X k F al μ ∧ Den (f μ ρ) (fun r ρ' => ∀ v k' al' F' H', Ext k al k' al' → RSk X k' F' ρ' σ H' → KS X k' F' al' r.2 → Same F F' → HRep X.K X.mg F' al' r.1 v → Q v H') noXH
abbrev HN (X : Cx) (e : Expr) (f : Sto → M (HV × Sto)) : Prop := PE X e (tHN X f)
end
end FL.HL

set_option maxHeartbeats 2000000
/-! HL8: names given values of the store. -/
namespace FL.HL
open PySem PySem.Spec PyProof.Rows L2 FL
section
variable {X : Cx} {e : Expr} {pos : Pos} {fn : Sto → M (HV × Sto)} {k : Bk} {F : Hp} {ρ : Env} {σ : L2.St} {H : Hp} {al : List Addr} {μ : Sto}
def slot : HV → SV
  | .t t => .fz t
  | .r n => .raw n
end
end FL.HL

set_option maxHeartbeats 2000000
/-! HL9: lists of references walked. -/
namespace FL.HL
open PySem PySem.Spec PyProof.Rows L2 FL
section
variable {X : Cx} {iter : Expr} {pos : Pos} {body : List Stmt} {src : HM (List HV)} {sb : MH}
theorem HReps.append {K : PySem.W.Frag} {mg : Str → Option Value} {F : Hp} {al : List Addr} : ∀ {xs ys : List HV} {vs ws : List V}, HReps K mg F al xs vs → HReps K mg F al ys ws → HReps K mg F al (xs ++ ys) (vs ++ ws)
  | [], _, vs, _, h, g => by
    have q : vs = [] := h
    subst q; exact g
  | x :: xs, _, vs, ws, h, g => by
    obtain ⟨u, r, rfl, h1, h2⟩ := h
    exact ⟨u, r ++ ws, rfl, h1, HReps.append h2 g⟩
end
end FL.HL

set_option maxHeartbeats 2000000
/-! HL10: an expression that only reads the store: its lists are taken as trees meanwhile. -/
namespace FL.HL
open PySem PySem.Spec PyProof.Rows L2 FL
section
variable {K : PySem.W.Frag} {mg : Str → Option Value} {F : Hp} {al : List Addr}
end
section
variable {X : Cx} {k : Bk} {F F3 : Hp} {al : List Addr} {μ : Sto} {ρ ρ3 : Env} {σ σ3 : L2.St} {H H3 : Hp}
theorem KS.fn (S : KS X k F al μ) (R : RSk X k F ρ σ H) {a : Addr} (m : a ∈ al) : F a = none ∧ k.F0 a = none ∧ ∃ ws, k.B a = some (.lst ws) ∧ H a = some (.lst ws) := by
  obtain ⟨n, hn⟩ := List.getElem?_of_mem m
  have hl : n < μ.length := by rw [← S.len]; exact (List.getElem?_eq_some_iff.mp hn).1
  obtain ⟨q, ws, e, _⟩ := S.st n a μ[n] hn (List.getElem?_eq_getElem hl)
  refine ⟨?_, q, ws, e, R.bh _ _ e⟩
  cases z : F a with
  | none => rfl
  | some o =>
    rcases R.fr a o z with ⟨u, w⟩ | w | ⟨us, rfl⟩
    · rw [q] at w; cases w
    · rw [e] at w; cases w
    · have y := R.fh _ _ z
      rw [R.bh _ _ e] at y
      cases y
variable {E : XK} {e c : Expr} {es : List Expr} {f0 : M T} {g0 : M Bool} {fs0 : M (List T)} {o0 : M O}
/-- a list that lies in the heap, of nobody yet, becomes one of the store -/
theorem KS.add {p : Addr} {vs : List V} {ys : List HV} (S : KS X k F al μ) (bp : k.B p = none) (f0 : k.F0 p = none) (rv : HReps X.K X.mg F al ys vs) :
    KS X ⟨upd k.B p (.lst vs), k.F0, k.pm, k.rw ++ [.ref p]⟩ F (al ++ [p]) (μ ++ [ys]) ∧ Ext k al ⟨upd k.B p (.lst vs), k.F0, k.pm, k.rw ++ [.ref p]⟩ (al ++ [p]) ∧ (al ++ [p])[μ.length]? = some p := by
  have fr : ∀ (n : Nat) (b : Addr), al[n]? = some b → b ≠ p := fun n b hb z => by
    subst z
    have hl : n < μ.length := by rw [← S.len]; exact (List.getElem?_eq_some_iff.mp hb).1
    obtain ⟨_, ws, e1, _⟩ := S.st n b μ[n] hb (List.getElem?_eq_getElem hl)
    rw [e1] at bp; cases bp
  refine ⟨?_, ⟨⟨[p], rfl⟩, rfl, rfl, fun b n => upd_ne fun z => n (List.mem_append_right _ (by rw [z]; exact List.mem_singleton_self _)), fun b m n => ?_⟩, by rw [← S.len, List.getElem?_append_right (Nat.le_refl _), Nat.sub_self]; rfl⟩
  · refine ⟨by show k.rw ++ [V.ref p] = (al ++ [p]).map V.ref; rw [S.rw, List.map_append]; rfl, ?_, by rw [List.length_append, List.length_append, S.len]; rfl, S.pm, fun m b zs h1 h2 => ?_⟩
    · rw [List.nodup_append]
      refine ⟨S.nd, by simp, fun x hx y hy e => ?_⟩
      rw [List.mem_singleton] at hy
      obtain ⟨m, hm⟩ := List.getElem?_of_mem hx
      exact fr m x hm (e.trans hy)
    · by_cases hm : m < al.length
      · rw [List.getElem?_append_left hm] at h1
        rw [List.getElem?_append_left (by rw [← S.len]; exact hm)] at h2
        obtain ⟨q1, ws', b', r'⟩ := S.st m b zs h1 h2
        exact ⟨q1, ws', by show upd k.B p (.lst vs) b = _; rw [upd_ne (fr m b h1)]; exact b', r'.more [p]⟩
      · have e : m = al.length := by
          have := (List.getElem?_eq_some_iff.mp h1).1
          rw [List.length_append] at this
          simp at this
          omega
        subst e
        rw [List.getElem?_append_right (Nat.le_refl _), Nat.sub_self] at h1
        rw [S.len, List.getElem?_append_right (Nat.le_refl _), Nat.sub_self] at h2
        cases h1; cases h2
        exact ⟨f0, vs, upd_same, rv.more [p]⟩
  · rcases List.mem_append.mp m with m | m
    · exact absurd m n
    · rw [List.mem_singleton] at m; subst m; exact bp
end
end FL.HL

set_option maxHeartbeats 2000000
/-! HL11: new lists of new lists; names; items; append; ranges; returns; tests that change the store. -/
namespace FL.HL
open PySem PySem.Spec PyProof.Rows L2 FL
section
variable {K : PySem.W.Frag} {mg : Str → Option Value} {B F0 F F' : Hp} {pm : Option Addr} {rw rw0 : List V} {ρ ρ' ρ0 : Env} {σ σ' : L2.St} {H H' H0 : Hp} {vs : List Nat}
end
/-- as Ext, but for the cell D -/
structure ExtD (D : Addr) (k : Bk) (al : List Addr) (k' : Bk) (al' : List Addr) : Prop where
  pre : ∃ b, al' = al ++ b
  f0 : k'.F0 = k.F0
  pm : k'.pm = k.pm
  out : ∀ a, a ∉ al' → a ≠ D → k'.B a = k.B a
  new : ∀ a, a ∈ al' → a ∉ al → k.B a = none
theorem ExtD.step {D : Addr} {k k1 k2 : Bk} {al al1 al2 : List Addr} {o o' : HO} (h : ExtD D k al k1 al1) (g : Ext k1 al1 k2 al2) (e : k1.B D = some o) : ExtD D k al ⟨upd k2.B D o', k2.F0, k2.pm, k2.rw⟩ al2 := by
  obtain ⟨b, eb⟩ := h.pre
  obtain ⟨c, ec⟩ := g.pre
  have up : ∀ a, a ∉ al2 → a ∉ al1 := fun a n m => n (by rw [ec]; exact List.mem_append_left _ m)
  refine ⟨⟨b ++ c, by rw [ec, eb, List.append_assoc]⟩, g.f0.trans h.f0, g.pm.trans h.pm, fun a n ne => ?_, fun a m n => ?_⟩
  · show upd k2.B D o' a = k.B a
    rw [upd_ne ne, g.out a n, h.out a (up a n) ne]
  · by_cases m1 : a ∈ al1
    · exact h.new a m1 n
    · have q := g.new a m m1
      have ne : a ≠ D := fun z => by subst z; rw [e] at q; cases q
      rw [← h.out a m1 ne]; exact q
section
variable {X : Cx} {k : Bk} {F : Hp} {al : List Addr} {μ : Sto}
theorem KS.updB {D : Addr} {o : HO} (S : KS X k F al μ) (n : D ∉ al) : KS X ⟨upd k.B D o, k.F0, k.pm, k.rw⟩ F al μ := ⟨S.rw, S.nd, S.len, S.pm, fun m b zs h1 h2 => by
  obtain ⟨q, ws, b', r⟩ := S.st m b zs h1 h2
  exact ⟨q, ws, by show upd k.B D o b = _; rw [upd_ne fun z => by subst z; exact n (List.mem_of_getElem? h1)]; exact b', r⟩⟩
end
/-! ### [new list for x in xs] -/
section
variable {X : Cx} {E : XK} {e c : Expr} {es : List Expr} {pos : Pos} {f : M T} {g : M Bool}
/-! ### names given values -/
/-! ### ranges -/
/-! ### returns -/
end
end FL.HL

set_option maxHeartbeats 2000000
/-! HL12: tests that change the store; defs that read and change the caller's store; defs that return a new list. -/
namespace FL.HL
open PySem PySem.Spec PyProof.Rows L2 FL
section
variable {X : Cx} {E : XK} {a b e c : Expr} {rest es : List Expr} {pos : Pos} {fn : Sto → M (HV × Sto)} {fa fb : Sto → M (Bool × Sto)} {s1 s2 : MH}
end
/-! ### defs over the caller's store -/
structure StOk (K : PySem.W.Frag) (mg : Str → Option Value) (B F0 F : Hp) (al : List Addr) (μ : Sto) : Prop where
  nd : al.Nodup
  len : al.length = μ.length
  st : ∀ (n : Nat) (a : Addr) (xs : List HV), al[n]? = some a → μ[n]? = some xs → F0 a = none ∧ ∃ ws, B a = some (.lst ws) ∧ HReps K mg F al xs ws
inductive HRes where
  | v (x : HV) | tup (xs : List HV)
def HResRep (K : PySem.W.Frag) (mg : Str → Option Value) (F : Hp) (al : List Addr) : HRes → V → Prop
  | .v x, v => HRep K mg F al x v
  | .tup xs, v => ∃ a vs, v = .ref a ∧ F a = some (.tup vs) ∧ HReps K mg F al xs vs
abbrev SgH := List HV → Sto → Res (HRes × Sto)
def spH (K : PySem.W.Frag) (mg : Str → Option Value) (g : SgH) : Sp := fun vs H Q E => ∃ B F al μ xs, Same F H ∧ Same B H ∧ Tb K mg F B H ∧ HReps K mg F al xs vs ∧ StOk K mg B F F al μ ∧
  Den (g xs μ) (fun r _ => ∀ v B' F' H' al', (∃ b, al' = al ++ b) → (∀ a, a ∉ al' → B' a = B a) → (∀ a, a ∈ al' → a ∉ al → B a = none) → Same F' H' → Same B' H' → Tb K mg F' B' H' → Same F F' → (∀ a o, F' a = some o → (∃ u, F a = some u) ∨ NB B' a o) → StOk K mg B' F F' al' r.2 → HResRep K mg F' al' r.1 v → Q v H') (fun _ => False)
structure KnownH (P : Program) (w : World) (K : PySem.W.Frag) (mg : Str → Option Value) (base : Heap) (k : Nat) (nm : Str) (g : SgH) : Prop where
  ok : ∃ (f : Addr) (fd : FuncData) (ps : List Str), mg nm = some (.ref f) ∧ PySem.W.keepIn K (.ref f) = true ∧ Binds K fd ps [] ∧ FnOk P w K mg base (L2.CX P w) k f fd ps (spH K mg g)
theorem KnownH.mono {P : Program} {w : World} {K : PySem.W.Frag} {mg : Str → Option Value} {base : Heap} {j k : Nat} {nm : Str} {g : SgH} (h : KnownH P w K mg base j nm g) (l : j ≤ k) : KnownH P w K mg base k nm g := by
  obtain ⟨f, fd, ps, a, b, c, d⟩ := h.ok
  exact ⟨f, fd, ps, a, b, c, d.mono l⟩
section
variable {P : Program} {w : World} {K : PySem.W.Frag} {mg : Str → Option Value} {base : Heap}
end
section
variable {X : Cx} {e : Expr} {es : List Expr} {pos p : Pos} {fs : HM (List HV)} {x : Str} {g : SgH}
end
/-! ### a def that returns a new list -/
def spO (K : PySem.W.Frag) (mg : Str → Option Value) (g : List T → Res O) : Sp := fun vs H Q E => ∃ B F ts, Same F H ∧ Same B H ∧ Tb K mg F B H ∧ Reps K mg F ts vs ∧
  Den (g ts) (fun o _ => ∀ p h F' H', Same F' H' → Same B H' → Tb K mg F' B H' → Same F F' → (∀ a o, F' a = some o → (∃ u, F a = some u) ∨ NB B a o) → F' p = none → B p = none → H' p = some h → ORep K mg F' o h → Q (.ref p) H') (fun _ => False)
structure KnownO (P : Program) (w : World) (K : PySem.W.Frag) (mg : Str → Option Value) (base : Heap) (k : Nat) (nm : Str) (g : List T → Res O) : Prop where
  ok : ∃ (f : Addr) (fd : FuncData) (ps : List Str), mg nm = some (.ref f) ∧ PySem.W.keepIn K (.ref f) = true ∧ Binds K fd ps [] ∧ FnOk P w K mg base (L2.CX P w) k f fd ps (spO K mg g)
theorem KnownO.mono {P : Program} {w : World} {K : PySem.W.Frag} {mg : Str → Option Value} {base : Heap} {j k : Nat} {nm : Str} {g : List T → Res O} (h : KnownO P w K mg base j nm g) (l : j ≤ k) : KnownO P w K mg base k nm g := by
  obtain ⟨f, fd, ps, a, b, c, d⟩ := h.ok
  exact ⟨f, fd, ps, a, b, c, d.mono l⟩
section
variable {X : Cx} {e : Expr} {es : List Expr} {pos p : Pos} {fs : M (List T)} {x : Str} {fo : M O} {st : Stmt} {sts : List Stmt}
end
section
variable {P : Program} {w : World} {K : PySem.W.Frag} {mg : Str → Option Value} {base : Heap}
end
section
variable {X : Cx} {E : XK} {e : Expr} {es : List Expr} {pos p : Pos} {fs : M (List T)} {x : Str} {g : List T → Res O}
end
/-! ### a def that begins with an empty store and ends with trees -/
/-! ### a def that begins with an empty store, as a function upon trees -/
end FL.HL

set_option maxHeartbeats 2000000
/-! FL57: sorted(x), x a list or a tuple. -/
namespace FL
open PySem PySem.Spec PyProof.Rows L2
section
open PySem.Calls
variable {prog : Program} {w : World} {A : Around} {E : Value → Shared → Prop} {s : Shared} {κ : PyProof.Rows.KeyKind}
variable {β : Type} {vs : List Value} {bs : List β} {enc : β → PyData} {R : Value → β → Prop}
end
section
variable {X : Cx}
end
/-- sorted of a list or a tuple -/
def sortA (ts : List T) : Option O := match ts with
  | [.tup xs] => sort1 [.lst xs]
  | ts => sort1 ts
section
variable {X : Cx} {E : XK} {e : Expr} {es : List Expr} {pos : Pos} {fs : M (List T)}
end
end FL

set_option maxHeartbeats 2000000
/-! FL58: z[::-1] of a text; sum of a tuple of numbers. -/
namespace FL
open PySem PySem.Spec PyProof.Rows L2
section
variable {X : Cx} {E : XK} {e st : Expr} {te ts : TE} {pos p2 : Pos} {fa fb : M T}
/-! sum of a tuple of numbers -/
end
end FL

set_option maxHeartbeats 2000000
/-! FL59: t[::-1], t[:0:-1] of a tuple. -/
namespace FL
open PySem PySem.Spec PyProof.Rows L2
open PySem.SeqAt
open PySem.MeetsSeq PySem.MeetsSeq2 PySem.MeetsSeq3
section
variable {prog : Program} {w : World} {A : Around} {E : Value → Shared → Prop} {s : Shared}
end
section
variable {X : Cx} {E : XK} {e st up : Expr} {te ts tu : TE} {pos p2 : Pos} {fa fb fu : M T}
theorem Reps.tl {K : PySem.W.Frag} {mg : Str → Option Value} {F : Hp} {ts : List T} {vs : List V} (h : Reps K mg F ts vs) : Reps K mg F ts.tail vs.tail := by
  have := h.drop 1
  simpa using this
end
end FL

set_option maxHeartbeats 2000000
/-! FL60: len(set(x)): tuples of numbers, lists of such tuples. -/
namespace FL
open PySem PySem.Spec PyProof.Rows L2
/-- the different ones, as they come -/
def ddGo {α : Type} [DecidableEq α] : List α → List α → List α
  | [], acc => acc
  | x :: xs, acc => if x ∈ acc then ddGo xs acc else ddGo xs (acc ++ [x])
def dd {α : Type} [DecidableEq α] (xs : List α) : List α := ddGo xs []
theorem ddGo_spec {α : Type} [DecidableEq α] : ∀ (xs acc : List α), acc.Nodup → (ddGo xs acc).Nodup ∧ ∀ a, a ∈ ddGo xs acc ↔ a ∈ acc ∨ a ∈ xs
  | [], acc, h => ⟨h, fun a => by simp [ddGo]⟩
  | x :: xs, acc, h => by
    unfold ddGo
    by_cases e : x ∈ acc
    · rw [if_pos e]
      obtain ⟨h1, h2⟩ := ddGo_spec xs acc h
      refine ⟨h1, fun a => ?_⟩
      rw [h2]
      constructor
      · rintro (h | h)
        · exact .inl h
        · exact .inr (List.mem_cons_of_mem _ h)
      · rintro (h | h)
        · exact .inl h
        · rcases List.mem_cons.mp h with rfl | h
          · exact .inl e
          · exact .inr h
    · rw [if_neg e]
      have hn : (acc ++ [x]).Nodup := by
        rw [List.nodup_append]
        refine ⟨h, by simp, fun a ha b hb => ?_⟩
        rw [List.mem_singleton.mp hb]
        intro e2; subst e2; exact e ha
      obtain ⟨h1, h2⟩ := ddGo_spec xs (acc ++ [x]) hn
      refine ⟨h1, fun a => ?_⟩
      rw [h2, List.mem_append, List.mem_singleton, List.mem_cons]
      constructor
      · rintro ((h | h) | h)
        · exact .inl h
        · exact .inr (.inl h)
        · exact .inr (.inr h)
      · rintro (h | h | h)
        · exact .inl (.inl h)
        · exact .inl (.inr h)
        · exact .inr h
theorem dd_nodup {α : Type} [DecidableEq α] (xs : List α) : (dd xs).Nodup := (ddGo_spec xs [] List.nodup_nil).1
theorem dd_mem {α : Type} [DecidableEq α] {xs : List α} {a : α} : a ∈ dd xs ↔ a ∈ xs := by
  rw [dd, (ddGo_spec xs [] List.nodup_nil).2]; simp
theorem dd_len {α : Type} [DecidableEq α] {xs ys : List α} (h : ys.Nodup) (e : ∀ a, a ∈ ys ↔ a ∈ xs) : ys.length = (dd xs).length :=
  ((List.perm_ext_iff_of_nodup h (dd_nodup xs)).mpr fun a => (e a).trans dd_mem.symm).length_eq
/-- tuples of numbers -/
def tupsT : List T → Option (List (List Int))
  | [] => some []
  | .tup ts :: us => match intsT ts, tupsT us with
    | some ns, some kss => some (ns :: kss)
    | _, _ => none
  | _ :: _ => none
def lenSetX (x : T) : Option T := match x with
  | .tup xs => match intsT xs with
    | some ns => if ns.length ≤ 4000 then some (.int ((dd ns).length : Nat)) else none
    | none => none
  | .lst xs => match intsT xs with
    | some ns => if ns.length ≤ 4000 then some (.int ((metI ns).length : Nat)) else none
    | none => match tupsT xs with
      | some ks => if ks.length < 64 then some (.int ((dd ks).length : Nat)) else none
      | none => none
  | _ => none
section
variable {X : Cx} {E : XK} {fa : M T}
end
end FL

set_option maxHeartbeats 2000000
/-! FL61: four names, each given a value of its own. -/
namespace FL
open PySem PySem.Spec PyProof.Rows L2
section
variable {X : Cx} {E : XK} {fs : M (List VO)} {pos : Pos}
end
end FL

set_option maxHeartbeats 2000000
/-! FL62: sorted(set(x)), x a list of ints. -/
namespace FL
open PySem PySem.Spec PyProof.Rows L2
section
variable {P : Program} {w : World} {A : Around} {E : Value → Shared → Prop} {s : Shared}
end
end FL

set_option maxHeartbeats 2000000
/-! FL63: sorted(set(x)) as a reading. -/
namespace FL
open PySem PySem.Spec PyProof.Rows L2
section
variable {X : Cx} {E : XK} {e : Expr} {fs : M (List T)} {p p2 q pos : Pos}
end
end FL

set_option maxHeartbeats 2000000
/-! FL64: sorted(set(x)), however many there are. -/
namespace FL
open PySem PySem.Spec PyProof.Rows PyProof.V L2 PySem.W PySem.Calls
section
variable {P : Program} {w : World} {A : Around} {E : Value → Shared → Prop} {s : Shared} {a : Addr}
end
section
variable {X : Cx} {E : XK} {e : Expr} {fs : M (List T)} {p p2 q pos : Pos}
end
end FL

set_option maxHeartbeats 2000000
/-! FL65: sorted(d.items()), keys and values ints or texts. -/
namespace FL
open PySem PySem.Spec PyProof.Rows L2
section
variable {X : Cx} {e : Expr} {te : TE} {p apos cpos pos : Pos}
end
section
variable {X : Cx} {E : XK} {e : Expr} {f : M T} {p apos cpos pos : Pos}
end
end FL

/-! FL66: x < y, data alike (tuples of numbers, texts). -/
namespace FL
open PySem PySem.Spec PyProof.Rows L2
def noneD (d : PyData) : Bool := match d with
  | .none => true
  | _ => false
def ltB (x y : T) : Option Bool := match toD x, toD y with
  | some d, some e => if PySem.W.alike d e && !noneD d && decide (min d.depth e.depth ≤ 64) then some (PySem.W.dataLt d e) else none
  | _, _ => none
def ltDO (x y : T) : Option T := (ltB x y).map T.bl
section
variable {X : Cx}
def rLtDO (K : PySem.W.Frag) : R2 := fun x y H Q => ∃ d e, Dp K H x d ∧ Dp K H y e ∧ PySem.W.alike d e = true ∧ d ≠ .none ∧ min d.depth e.depth ≤ 64 ∧ Q (.bl (PySem.W.dataLt d e)) H
theorem op_ltDO (hu : X.A.units + 65 < cLine) : OpR X (compareOp .Lt) (rLtDO X.K) := by
  intro pins s σ H x y v u Q I rx ry h
  obtain ⟨d, e, hd, he, h1, h2, h3, q⟩ := h
  obtain ⟨as, r1⟩ := Dp.reads I d x v hd rx
  obtain ⟨bs, r2⟩ := Dp.reads I e y u he ry
  exact PySem.W.lt_data r1 r2 h1 h2 (by omega) ⟨.bl _, H, I, rfl, q⟩
theorem ot_ltDO : OpT X (rLtDO X.K) ltDO := fun k F ρ σ H Q x y t v u R rx ry e g => by
  unfold ltDO at e
  rw [Option.map_eq_some_iff] at e
  obtain ⟨b, e, rfl⟩ := e
  unfold ltB at e
  split at e
  · rename_i d d2 h1 h2
    split at e
    · rename_i h3
      simp only [Bool.and_eq_true, Bool.not_eq_true', decide_eq_true_eq] at h3
      cases e
      refine ⟨d, d2, dp_of R.fh _ _ _ rx h1, dp_of R.fh _ _ _ ry h2, h3.1.1, fun z => ?_, h3.2, ?_⟩
      · rw [z] at h3
        have := h3.1.2
        cases this
      · exact g (.bl _) F H R (Same.refl F) rfl
    · cases e
  · cases e
end
end FL

set_option maxHeartbeats 2000000
/-! FL67: for k, v in d.items(), d a dict of tuple keys that a name holds (and that is not used any more). -/
namespace FL
open PySem PySem.Spec PyProof.Rows L2
section
variable {P : Program} {w : World} {K : PySem.W.Frag} {tg : Expr} {d : Addr} {o : Obj} {es : Array DictEntry} {ep : Nat}
end
section
variable {X : Cx} {E : XK} {tg e : Expr} {td : TE} {apos cpos : Pos}
/-- the object of a slot set aside, the slot forgotten -/
theorem RS.asideI {K : PySem.W.Frag} {mg : Str → Option Value} {B F0 F : Hp} {pm : Option Addr} {rw : List V} {ρ : Env} {σ : L2.St} {H : Hp} {i : Nat} {o : O} (R : RS K mg B F0 pm rw F ρ σ H) (hi : ρ[i]? = some (.ow o)) :
    ∃ p h, σ[i]? = some (some (.ref p)) ∧ F p = none ∧ B p = none ∧ pm ≠ some p ∧ H p = some h ∧ ORep K mg F o h ∧ RS K mg (upd B p h) F0 pm rw F (ρ.set i .un) σ H := by
  obtain ⟨α, h1, h2⟩ := R.ex
  obtain ⟨a, b, c, d, u, e1, e2⟩ := h1 i _ hi
  have up : ∀ j y, (ρ.set i SV.un)[j]? = some y → y = .un ∨ (j ≠ i ∧ ρ[j]? = some y) := fun j y hy => by
    by_cases hj : i = j
    · subst hj
      rw [List.getElem?_set_self (by exact (List.getElem?_eq_some_iff.mp hi).1)] at hy
      exact .inl (Option.some.inj hy).symm
    · rw [List.getElem?_set_ne hj] at hy
      exact .inr ⟨fun e => hj e.symm, hy⟩
  refine ⟨α i, u, a, b, c, d, e1, e2, ⟨by rw [List.length_set]; exact R.len, R.fh, fun z w q => ?_, R.f0, fun z w q => ?_, R.pt, R.tb.updB e1 e2.plain, α, fun j y hy => ?_, fun j m y z hy hz oy oz ne => ?_⟩⟩
  · by_cases hz : z = α i
    · subst hz; rw [upd_same] at q; cases q; exact e1
    · rw [upd_ne hz] at q; exact R.bh _ _ q
  · rcases R.fr z w q with k | k
    · exact .inl k
    · refine .inr (k.imp (fun k => ?_) id)
      rw [upd_ne (fun e => by subst e; rw [b] at q; cases q)]
      exact k
  · rcases up j y hy with rfl | ⟨hj, hy'⟩
    · trivial
    · have q := h1 j y hy'
      have ne : y.owned = true → α j ≠ α i := fun oy => h2 j i y _ hy' hi oy rfl hj
      cases y with
      | un => trivial
      | fz t => exact q
      | raw n => exact q
      | ow o => obtain ⟨a, b, c, d⟩ := q; exact ⟨a, b, by rw [upd_ne (ne rfl)]; exact c, d⟩
      | pa o => obtain ⟨a, b, c, d⟩ := q; exact ⟨a, b, by rw [upd_ne (ne rfl)]; exact c, d⟩
  · rcases up j y hy with rfl | ⟨hj, hy'⟩
    · cases oy
    · rcases up m z hz with rfl | ⟨hm, hz'⟩
      · cases oz
      · exact h2 j m y z hy' hz' oy oz ne
end
end FL

set_option maxHeartbeats 2000000
/-! FL68: list.count of data. -/
namespace FL
open PySem PySem.Spec PyProof.Rows L2
section
variable {X : Cx} {E : XK} {ob e : Expr} {fo fe fa : M T} {apos cpos pos : Pos}
end
end FL

set_option maxHeartbeats 2000000
/-! FL69: for k in {k: v for ..}, the keys tuples. -/
namespace FL
open PySem PySem.Spec PyProof.Rows L2
section
variable {P : Program} {w : World} {K : PySem.W.Frag} {tg : Expr} {d : Addr} {o : Obj} {es : Array DictEntry} {ep : Nat}
end
section
variable {X : Cx} {E : XK} {tg e : Expr} {td : TE} {fo : M O}
end
end FL

set_option maxHeartbeats 2000000
/-! FL70: len(d), d of tuple keys. -/
namespace FL
open PySem PySem.Spec PyProof.Rows L2
section
variable {X : Cx} {E : XK} {x : Str} {i : Nat} {p pos : Pos}
end
end FL

set_option maxHeartbeats 2000000
/-! FL71: for v in d.values(), d a dict of tuple keys that a name holds (and that is not used any more). -/
namespace FL
open PySem PySem.Spec PyProof.Rows L2
section
variable {P : Program} {w : World} {K : PySem.W.Frag} {tg : Expr} {d : Addr} {o : Obj} {es : Array DictEntry} {ep : Nat}
end
section
variable {X : Cx} {E : XK} {tg e : Expr} {td : TE} {apos cpos : Pos}
end
section
variable {X : Cx} {E : XK} {tg e : Expr} {apos cpos : Pos}
end
end FL

set_option maxHeartbeats 2000000
/-! FL72: for x in xs: d.setdefault(k, []).append(x), d a new dict of tuple keys. -/
namespace FL
open PySem PySem.Spec PyProof.Rows L2
/-- groups: keys and their items, in the order of their first ones -/
abbrev Gr := List (List L2.Key × List T)
section
variable {K : PySem.W.Frag} {mg : Str → Option Value} {B F0 F : Hp} {pm : Option Addr} {rw : List V} {ρ : FL.Env} {σ : L2.St} {H : Hp} {i : Nat}
end
/-- the dict D and its lists bs, among what a reading keeps -/
structure GK (K : PySem.W.Frag) (mg : Str → Option Value) (B F0 B1 F : Hp) (D : Addr) (bs : List Addr) (kvs : List (List L2.Key × V)) (γ : Gr) : Prop where
  d : B1 D = some (.dT kvs)
  ks : kvs.map (·.1) = γ.map (·.1)
  vs : kvs.map (·.2) = bs.map V.ref
  len : bs.length = γ.length
  nd : (D :: bs).Nodup
  ce : ∀ (j : Nat) b p, bs[j]? = some b → γ[j]? = some p → ∃ ws, B1 b = some (.lst ws) ∧ Reps K mg F p.2 ws
  out : ∀ a, a ∉ D :: bs → B1 a = B a
  inn : ∀ a, a ∈ D :: bs → B a = none ∧ F0 a = none
section
variable {K : PySem.W.Frag} {mg : Str → Option Value} {B F0 B1 F F' : Hp} {D : Addr} {bs : List Addr} {kvs : List (List L2.Key × V)} {γ : Gr}
theorem GK.mono (G : GK K mg B F0 B1 F D bs kvs γ) (s : Same F F') : GK K mg B F0 B1 F' D bs kvs γ := ⟨G.d, G.ks, G.vs, G.len, G.nd, fun j b p h1 h2 => let ⟨ws, q, r⟩ := G.ce j b p h1 h2; ⟨ws, q, r.mono s⟩, G.out, G.inn⟩
theorem GK.found (G : GK K mg B F0 B1 F D bs kvs γ) {j : Nat} {k : List L2.Key} {it : List T} {b : Addr} {ws : List V} {x : T} {v : V} (hb : bs[j]? = some b) (hg : γ[j]? = some (k, it)) (hw : B1 b = some (.lst ws)) (r : Rep K mg F x v) :
    GK K mg B F0 (upd B1 b (.lst (ws ++ [v]))) F D bs kvs (γ.set j (k, it ++ [x])) := by
  have bm : b ∈ bs := List.mem_of_getElem? hb
  have nD : D ≠ b := fun z => by subst z; exact (List.nodup_cons.mp G.nd).1 bm
  have hj := (List.getElem?_eq_some_iff.mp hg).1
  refine ⟨by rw [upd_ne nD]; exact G.d, ?_, G.vs, by rw [List.length_set]; exact G.len, G.nd, fun m b' p h1 h2 => ?_, fun a ha => ?_, G.inn⟩
  · rw [G.ks, List.map_set]
    refine List.ext_getElem? fun m => ?_
    by_cases hm : m = j
    · subst hm
      rw [List.getElem?_set_self (by simpa using hj), List.getElem?_map, hg]; rfl
    · rw [List.getElem?_set_ne (Ne.symm hm)]
  · by_cases hm : m = j
    · subst hm
      rw [hb] at h1; cases h1
      rw [List.getElem?_set_self hj] at h2; cases h2
      obtain ⟨ws', e1, e2⟩ := G.ce m b (k, it) hb hg
      rw [hw] at e1; cases e1
      exact ⟨_, upd_same, e2.append (.one r)⟩
    · rw [List.getElem?_set_ne (Ne.symm hm)] at h2
      obtain ⟨ws', e1, e2⟩ := G.ce m b' p h1 h2
      refine ⟨ws', ?_, e2⟩
      rw [upd_ne fun z => ?_]
      · exact e1
      · subst z
        have h3 : bs[m]? = bs[j]? := by rw [h1, hb]
        exact hm ((List.getElem?_inj (List.getElem?_eq_some_iff.mp h1).1 (List.nodup_cons.mp G.nd).2).mp h3)
  · rw [upd_ne fun z => ha (by rw [z]; exact List.mem_cons_of_mem _ bm)]
    exact G.out a ha
theorem GK.new (G : GK K mg B F0 B1 F D bs kvs γ) {p : Addr} {k : List L2.Key} {x : T} {v : V} (hp : p ∉ D :: bs) (hB : B p = none) (hF : F0 p = none) (r : Rep K mg F x v) :
    GK K mg B F0 (upd (upd (upd B1 p (.lst [])) D (.dT (kvs ++ [(k, .ref p)]))) p (.lst [v])) F D (bs ++ [p]) (kvs ++ [(k, .ref p)]) (γ ++ [(k, [x])]) := by
  have nD : D ≠ p := fun z => hp (by rw [z]; exact List.mem_cons_self ..)
  have nb : ∀ b ∈ bs, b ≠ p := fun b hb z => hp (by rw [← z]; exact List.mem_cons_of_mem _ hb)
  have nbD : ∀ b ∈ bs, b ≠ D := fun b hb z => (List.nodup_cons.mp G.nd).1 (z ▸ hb)
  refine ⟨by rw [upd_ne nD, upd_same], by rw [List.map_append, List.map_append, G.ks]; rfl, by rw [List.map_append, List.map_append, G.vs]; rfl, by rw [List.length_append, List.length_append, G.len]; rfl, ?_, fun m b q h1 h2 => ?_, fun a ha => ?_, fun a ha => ?_⟩
  · rw [← List.cons_append, List.nodup_append]
    exact ⟨G.nd, by simp, fun a ha b hb => by rw [List.mem_singleton] at hb; subst hb; exact fun z => hp (z ▸ ha)⟩
  · by_cases hm : m < bs.length
    · rw [List.getElem?_append_left hm] at h1
      rw [List.getElem?_append_left (by rw [← G.len]; exact hm)] at h2
      obtain ⟨ws, e1, e2⟩ := G.ce m b q h1 h2
      have bm := List.mem_of_getElem? h1
      exact ⟨ws, by rw [upd_ne (nb b bm), upd_ne (nbD b bm), upd_ne (nb b bm)]; exact e1, e2⟩
    · have hl := (List.getElem?_eq_some_iff.mp h1).1
      rw [List.length_append] at hl
      have em : m = bs.length := by simp at hl; omega
      subst em
      rw [List.getElem?_append_right (Nat.le_refl _), Nat.sub_self] at h1
      cases h1
      rw [G.len, List.getElem?_append_right (Nat.le_refl _), Nat.sub_self] at h2
      cases h2
      exact ⟨[v], upd_same, .one r⟩
  · rw [← List.cons_append, List.mem_append, List.mem_singleton, not_or] at ha
    rw [upd_ne ha.2, upd_ne (fun z => ha.1 (by rw [z]; exact List.mem_cons_self ..)), upd_ne ha.2]
    exact G.out a ha.1
  · rw [← List.cons_append, List.mem_append, List.mem_singleton] at ha
    rcases ha with ha | rfl
    · exact G.inn a ha
    · exact ⟨hB, hF⟩
end
section
variable {X : Cx} {E : XK} {pos : Pos}
end
end FL

set_option maxHeartbeats 3200000
/-! FL73: sorted(set(x)), x a list of texts. -/
namespace FL
open PySem PySem.Spec PyProof.Rows L2 PySem.W PySem.Calls
/-- the text that an entry of a set holds -/
def txE (e : Int × Value) : Str := match e.2 with
  | .str z _ => z
  | _ => Str.empty
/-- at a stands a set of just these texts, and its table can be walked -/
def TSet (w : World) (h : Heap) (a : Addr) (ks : List Str) : Prop :=
  ∃ o es ep t, (h.get? a = some o ∧ o.ExactSet ∧ o.data = .set es ep t) ∧ (∀ e ∈ es.toList, ∃ z tk, e = (hashStr w z, Value.str z tk)) ∧ ks.Perm (es.toList.map txE) ∧
    (ks.Nodup ∧ ks.length < scanBound) ∧ (t.fits es.size = true ∧ Ris t.place.toList) ∧ (w.params.followText "set-order" = true ∨ t.led = true)
theorem TSet.keep {w : World} {h h2 : Heap} {a : Addr} {ks : List Str} (T : TSet w h a ks) (k : ∀ o, h.get? a = some o → h2.get? a = some o) : TSet w h2 a ks := by
  obtain ⟨o, es, ep, t, ⟨a1, a2⟩, r⟩ := T
  exact ⟨o, es, ep, t, ⟨k _ a1, a2⟩, r⟩
section
variable {P : Program} {w : World} {A : Around} {E : Value → Shared → Prop} {s : Shared} {a : Addr} {ks : List Str}
end
section
variable {P : Program} {w : World} {A : Around} {E : Value → Shared → Prop} {s : Shared} {a : Addr}
end
section
variable {X : Cx} {E : XK} {e : Expr} {fs : M (List T)} {p p2 q pos : Pos}
end
end FL

set_option maxHeartbeats 3200000
/-! FL74: sorted(set(x)), x a list of tuples of numbers, any many of them, fewer than 63 different ones. -/
namespace FL
open PySem PySem.Spec PyProof.Rows L2 PySem.W PySem.Calls
section
variable {P : Program} {w : World} {A : Around} {E : Value → Shared → Prop} {s : Shared}
end
end FL

set_option maxHeartbeats 3200000
/-! FL75: sorted(set(x)) as a reading, x a list of tuples of numbers. -/
namespace FL
open PySem PySem.Spec PyProof.Rows L2 PySem.W PySem.Calls
/-! the order of tuples of numbers -/
section
variable {X : Cx} {E : XK} {e : Expr} {fs : M (List T)} {p p2 q pos : Pos}
end
end FL

set_option maxHeartbeats 2000000
/-! FL76: sorted(d), the keys tuples, one key at most, which may be the empty tuple. -/
namespace FL
open PySem PySem.Spec PyProof.Rows L2
section
variable {X : Cx} {E : XK} {e : Expr} {es : List Expr} {fs : M (List T)} {p pos : Pos}
end
end FL

set_option maxHeartbeats 2000000
/-! FL77: int(text); x.pop() of a list. -/
namespace FL
open PySem PySem.Spec PyProof.Rows L2
section
variable {X : Cx} {E : XK} {x : Str} {i : Nat} {p : Pos}
end
end FL

set_option maxHeartbeats 2000000
/-! FL78: [e for x in NAME if t], NAME a list of one's own, which it stays. -/
namespace FL
open PySem PySem.Spec PyProof.Rows L2
section
variable {X : Cx} {E : XK} {f : M T} {x : Str} {i : Nat} {p : Pos}
end
end FL

set_option maxHeartbeats 2000000
/-! FL79: NAME == e, NAME != e, NAME a list of one's own, which it stays. -/
namespace FL
open PySem PySem.Spec PyProof.Rows L2
section
variable {X : Cx} {E : XK} {b : Expr} {fb : M T} {pos p : Pos} {x : Str} {i : Nat}
end
end FL

set_option maxHeartbeats 2000000
/-! FL80: {(b, b): v, ..}[(x, y)], keys pairs of bools, a display that is looked up at once. -/
namespace FL
open PySem PySem.Spec PyProof.Rows L2
section
variable {X : Cx} {pos pos' : Pos} {keys : List (Option Expr)} {values : List Expr} {trs : List (TE × TE)} {i : Expr} {ty : TE}
end

/-! ### the reading -/
def BF (F : Hp) : List (V × V) → List (List Bool × Str) → Prop := Paired fun p q => (∃ b, p.1 = .ref b ∧ F b = some (.tup (q.1.map V.bl))) ∧ p.2 = V.str q.2
theorem BF.mono {F F' : Hp} (s : Same F F') : ∀ {ps : List (V × V)} {tbl}, BF F ps tbl → BF F' ps tbl
  | [], _, r => by cases r; exact .nil
  | p :: ps, _, r => by
    cases r with
    | cons r1 r2 =>
      obtain ⟨⟨b, e1, e2⟩, e3⟩ := r1
      exact .cons ⟨⟨b, e1, s b _ e2⟩, e3⟩ (BF.mono s r2)
section
variable {X : Cx} {E : XK} {pos pos' : Pos} {keys : List (Option Expr)} {values : List Expr} {i : Expr} {fi : M T}
end

/-! ### for k in d, d a name whose dict is frozen from then on -/
section
variable {X : Cx} {E : XK} {tg : Expr}
end
end FL

set_option maxHeartbeats 2000000
/-! FL81: x[i], x[j] = a, b, where x holds a list of one's own. -/
namespace FL
open PySem PySem.Spec PyProof.Rows L2
section
variable {X : Cx} {E : XK} {x : Str} {i : Nat} {b b2 : Expr} {fi fj : M T} {es : List Expr} {fs : M (List T)} {p p2 p3 p4 tpos epos pos : Pos}
end
end FL

set_option maxHeartbeats 2000000
/-! FL82: {(int, bool): v}, a new dict; its length. -/
namespace FL
open PySem PySem.Spec PyProof.Rows L2
def disp1B (fk fv : M T) : M O := fun ρ => (fk ρ).bind fun y ρ => (fv ρ).bind fun z ρ => match keyB y with
  | some k => .ok (.db [k] [z]) ρ
  | none => .bad
section
variable {X : Cx} {E : XK} {kx vx : Expr} {fk fv : M T} {pos : Pos}
theorem fo_disp1B (hu : X.A.units + 9 < cLine) (hk : FE X E kx fk) (hv : FE X E vx fv) : FO X E (.Dict [some kx] [vx] pos) (disp1B fk fv) := by
  refine pe_imp (pe_dispB hu (pps_cons hk hv pps_nil) (by rfl) (by rfl) (fun z => by cases z) (show 1 ≤ 15 by decide)) fun σ H Q h => ?_
  obtain ⟨k, F, ρ, R, h⟩ := h
  intro D nD
  have R1 := R.newO (o := .db [] []) (h := dbO D []) ⟨D, [], rfl, (fun p hp => nomatch hp), rfl, .nil⟩ nD
  obtain ⟨p0, ho, ep, fp, bp, npm, hp, ro, R0⟩ := RS.aside R1 R.len
  cases ep
  have eho : ho = dbO D [] := by
    rw [upd_same] at hp
    exact (Option.some.inj hp).symm
  have f0 : k.F0 D = none := R1.f0.free fp
  let k' : Bk := ⟨upd k.B D ho, k.F0, k.pm, k.rw⟩
  have xo : ∀ x, XOk X.K X.mg k E x → XOk X.K X.mg k' E x := fun x hx => xok_b (same_upd bp) rfl rfl hx
  have dx : ∀ {α : Type} {r : Res α} {pp : α → Env → Prop}, Den r pp (XOk X.K X.mg k E) → Den r pp (XOk X.K X.mg k' E) := fun {α r pp} d => by
    cases r with
    | bad => exact d
    | exc x => exact xo x d
    | ok a ρ => exact d
  refine ⟨k', F, ρ, R0, dx ((Den.bind h).imp fun y ρ1 h1 u F1 H1 Ra s1 r1 => ?_)⟩
  refine ⟨k', F1, ρ1, Ra, dx ((Den.bind h1).imp fun z ρ2 h2 v F2 H2 Rb s2 r2 => ?_)⟩
  split at h2
  · rename_i kk hkk
    have hD : H2 D = some (dbO D []) := by
      rw [← eho]
      exact Rb.bh D ho upd_same
    have R7 := RS.back (ρ' := ρ2) (ys := []) (σ := σ) (ws := []) (by rw [List.append_nil, List.append_nil]; exact Rb) Rb.len f0 bp npm (ro.mono (s1.trans s2))
    obtain ⟨a, h3, ea, _, hh, roh, mk⟩ := RS.chg (o := .db [] []) (o' := .db [kk] [z]) R7 end_slot (.inl rfl)
    have eD : a = D := by
      rw [Rb.len] at ea
      simpa using ea.symm
    subst eD
    obtain ⟨q, rfl, eq⟩ := keyB_rep (r1.mono s2) hkk
    refine ⟨hD, kk, q, v, rfl, Rb.fh _ _ eq, ?_⟩
    have q2 := mk (h' := dbO a [(kk, q, v)]) ⟨a, _, rfl, (fun p hp => by rw [List.mem_singleton] at hp; subst hp; exact eq), rfl, .one r2⟩
    rw [end_set] at q2
    exact h2 _ F2 _ q2 (s1.trans s2) Rb.len
  · exact h2.elim
end
end FL

set_option maxHeartbeats 2000000
/-! FL83: len(d) and for k in d, d a dict whose keys are pairs of an int and a bool. -/
namespace FL
open PySem PySem.Spec PyProof.Rows L2
def rLenB : List V → Hp → VK → Prop := fun xs H Q => ∃ (p a : Addr) (kvs : BKV), xs = [.ref p] ∧ H p = some (dbO a kvs) ∧ KAs H kvs ∧ Q (.int ((kvs.length : Nat) : Int)) H
theorem call_len_dB {X : Cx} : CallR X (.builtin "len") rLenB := by
  intro pins s σ H xs us Q I r h
  obtain ⟨p, a, kvs, rfl, hp, ka, q⟩ := h
  obtain ⟨u, rfl, rx⟩ := vals1 r
  obtain rfl : u = .ref p := rx
  obtain ⟨z, hd, _, ys, rel, dd⟩ := db_rd I.hok (.inl hp) ka
  have hl : kvs.length = ys.length := Paired.length rel
  refine call_len_dictH hd dd (by rw [← hl]; rw [sizeLine_eq] at z; omega) ?_
  rw [← hl]
  exact ⟨.int ((kvs.length : Nat) : Int), H, I.tok _, ⟨_, rfl⟩, q⟩
section
variable {X : Cx} {E : XK} {x : Str} {i : Nat} {p pos : Pos}
def lenDB (i : Nat) : M T := fun ρ => match has i ρ with
  | .o (.db ks ts) => .ok (.int (ks.length : Nat)) ρ
  | _ => .bad
theorem fe_lenDB {p2 : Pos} (hg : Gl X "len") (hm : X.mg "len" = none) (hbt : bootBuiltins "len" = some (.builtin "len")) (hN : X.N[i]? = some x := by rfl) (hv : Vis X.env.scope x := by first | exact Or.inl rfl | exact Or.inr (Or.inl rfl) | exact Or.inr (Or.inr rfl)) (hd : (x == ("__debug__" : Str)) = false := by decide) (hcd : (x == ("__classdict__" : Str)) = false := by decide)
    (hst : starEach [Expr.Name x p] X.env = (false, eval (Expr.Name x p) X.env) :: starEach [] X.env := by rfl) (hpl : (backTo pos (starEach [] X.env)).any (·.1) = false := by rfl) :
    FE X E (.Call (.Name "len" p2) [.Name x p] [] pos) (lenDB i) := by
  refine pe_imp (pe_callB call_len_dB hg hm hbt (pa_cons (pe_var hN hv hd hcd) pa_nil hst) (by decide) (by decide) hst hpl) fun σ H Q h => ?_
  obtain ⟨k, F, ρ, R, h⟩ := h
  unfold lenDB at h
  split at h
  · rename_i ks ts e
    obtain ⟨a, h0, q, _, e3, e4, _⟩ := R.own (has_o e)
    obtain ⟨a', kvs, rfl, ka, h2, h3⟩ := e4
    refine ⟨_, q, a, a', kvs, rfl, e3, ka.mono fun _ _ z => R.fh _ _ z, h _ F H R (Same.refl _) ?_⟩
    rw [← h2, List.length_map]; rfl
  · exact h.elim
end
/-! ### for k in d -/
theorem frzB {X : Cx} {pins : List (Addr × Obj)} {σ : L2.St} {H : Hp} {s : Shared} {d a : Addr} {o : Obj} {kvs : BKV} (I : Inv X pins σ H s) (h : H d = some (.frz o (dbO a kvs))) :
    (d == sysModules) = false ∧ s.heap.get? d = some o ∧ o.ExactDict ∧ ∃ (es : Array DictEntry) (ep : Nat), o.data = .dict es ep ∧ es.size = kvs.length ∧
      ∀ (i : Nat) (p : BK × Addr × V), kvs[i]? = some p → ∃ (en : DictEntry), es[i]? = some en ∧ en.key = .ref p.2.1 := by
  obtain ⟨hd, q⟩ := I.hok d _ h
  obtain ⟨rfl, z, hs, n, xs, pr, o', es, ep, ho, hx, hdt, he⟩ := dbO_at q
  rw [hd] at ho
  cases ho
  have l1 : es.size = xs.length := by rw [← Array.length_toList, he, List.length_map]
  have l2 : kvs.length = xs.length := Paired.length pr
  refine ⟨hs, hd, hx, es, ep, hdt, by omega, fun i p e => ?_⟩
  obtain ⟨b, hb, e1, e2, _⟩ := paired_get pr e
  have q : es.toList[i]? = some (entB b) := by rw [he, List.getElem?_map, hb]; rfl
  rw [Array.getElem?_toList] at q
  exact ⟨_, q, by rw [e2]; rfl⟩
def Itbb (d a : Addr) (o : Obj) (kvs : BKV) : It :=
  ⟨fun i H => H d = some (.frz o (dbO a kvs)) ∧ i < kvs.length, fun i H x H' => H' = H ∧ ∃ p, kvs[i]? = some p ∧ x = .ref p.2.1, fun i H => H d = some (.frz o (dbO a kvs)) ∧ kvs.length ≤ i⟩
section
variable {P : Program} {w : World} {K : PySem.W.Frag} {tg : Expr} {d a : Addr} {o : Obj} {es : Array DictEntry} {ep : Nat}
theorem turn_keysBB {kvs : BKV} (it : Addr) (hod : o.data = .dict es ep) : Turn P w K tg (Itbb d a o kvs) [it] it (fun i h => h.IsKeyIter it d i kvs.length ep) where
  mem := by simp
  obj := fun i h st b hb => by
    have e : b = it := by simpa using hb
    subst e
    obtain ⟨oi, e, c, dd⟩ := st
    exact ⟨oi, e, fun v z => by rw [dd] at z; cases z⟩
  keep := fun i h h' st k => st.at fun oi e => k it (by simp) oi e
  item := by
    intro X hP hw hK hc i pins s σ H E I hf st hg
    subst hP hw hK
    obtain ⟨hd, hi⟩ := hg
    obtain ⟨f0, f1, f2, f3, f4, f5⟩ := hf it (by simp)
    obtain ⟨hs, hgd, hx, es', ep', hdt, hsz, ent⟩ := frzB I hd
    obtain ⟨rfl, rfl⟩ := dict_ep hod hdt
    obtain ⟨p, hkv⟩ : ∃ p, kvs[i]? = some p := ⟨kvs[i], List.getElem?_eq_getElem hi⟩
    obtain ⟨en, hen, hkey⟩ := ent i p hkv
    refine next_key_item st hgd hdt hsz hen fun h' st' sb => ?_
    have I1 : Inv X pins σ H { s with heap := h' } := I.turned (t' := s.toks) (fun b ob hb e => (sb.2 b hb).trans e) f0 f1 f3 f4 f5
    obtain ⟨oi, e, c, dd⟩ := id st'
    exact ⟨en.key, rfl, go_of (s := { s with heap := h' }) e c dd (by decide) ⟨.ref p.2.1, H, I1, hkey, ⟨rfl, p, hkv, rfl⟩, st', fun b hb => (hf b hb).1⟩⟩
  done := by
    intro X hP hw hK hc i pins s σ H E I hf st hg
    subst hP hw hK
    obtain ⟨hd, hi⟩ := hg
    obtain ⟨f0, f1, f2, f3, f4, f5⟩ := hf it (by simp)
    obtain ⟨hs, hgd, hx, es', ep', hdt, hsz, ent⟩ := frzB I hd
    obtain ⟨rfl, rfl⟩ := dict_ep hod hdt
    exact next_key_end (I.ok.hd hc) st hgd hdt hsz hi fun h' eb => ⟨rfl, I.turned (t' := s.toks) (fun b ob hb e => eb b ob hb e) f0 f1 f3 f4 f5⟩
  self := fun A i s Q E st h => by
    refine wpAny_pyIter_slot st.typeIs F.slot_dict_keyiterator_iter (wpAny_call_entry F.slot_dict_keyiterator_iter st.typeIs F.entry_dict_keyiterator_iter ?_ (F.args_dict_keyiterator_iter_1 _))
    show wpAny _ _ (ret (.ref it)) _ _ s
    exact wpAny_pure ⟨_, rfl, "dict_keyiterator", _, st.typeIs, F.slot_dict_keyiterator_next.lookup, h⟩
end
section
variable {X : Cx} {E : XK} {tg e : Expr} {td te : TE}
def iKeysBB (td : TE) : TI := fun σ H R => td σ H fun x H1 => ∃ d a o kvs, x = .ref d ∧ H1 d = some (.frz o (dbO a kvs)) ∧ R (Itbb d a o kvs) H1
theorem pi_keysBB (he : PE X e td) : PI X tg e (iKeysBB td) := by
  refine ⟨fun pins s σ H R I h => ?_⟩
  refine thn (he.run pins s σ H _ I h) fun u s1 ⟨x, H1, I1, rx, d, a, o, kvs, ex, hd, q⟩ => ?_
  subst ex
  obtain rfl : u = Value.ref d := rx
  obtain ⟨hs, hgd, hx, es, ep, hdt, hsz, ent⟩ := frzB I1 hd
  refine iter_keys hs hgd hx hdt (pi_one (tk := s1.toks) I1 _ (turn_keysBB _ hdt) ⟨_, Heap.get?_push_size _ rfl, rfl, ?_⟩ q)
  rw [hsz] <;> rfl
def tStillB (te : TE) : TE := fun σ H Q => te σ H fun x H1 => ∃ (d a : Addr) (kvs : BKV), x = .ref d ∧ H1 d = some (dbO a kvs) ∧ ∀ od, Q x (upd H1 d (.frz od (dbO a kvs)))
theorem pe_stillB (he : PE X e te) : PE X e (tStillB te) := by
  refine ⟨fun pins s σ H Q I h => thn (he.run pins s σ H _ I h) fun u s1 ⟨x, H1, I1, rx, d, a, kvs, ex, hd, q⟩ => ?_⟩
  obtain ⟨od, I2⟩ := I1.lock hd True.intro
  exact ⟨x, _, I2, rx, q od⟩
end
theorem RS.lockB {K : PySem.W.Frag} {mg : Str → Option Value} {B F0 F : Hp} {pm : Option Addr} {rw : List V} {ρ : Env} {σ : L2.St} {H : Hp} {q a0 : Addr} {kvs : BKV} (R0 : RS K mg (upd B q (dbO a0 kvs)) F0 pm rw F ρ σ H) (fp : F q = none) (bp : B q = none) (hp : H q = some (dbO a0 kvs)) (od : Obj) :
    Same F (upd F q (.frz od (dbO a0 kvs))) ∧ RS K mg B F0 pm rw (upd F q (.frz od (dbO a0 kvs))) ρ σ (upd H q (.frz od (dbO a0 kvs))) := by
  have sF : Same F (upd F q (.frz od (dbO a0 kvs))) := same_upd fp
  refine ⟨sF, ?_⟩
  obtain ⟨α, g1, g2⟩ := R0.ex
  have pl : plainO (dbO a0 kvs) := plain_db
  refine ⟨R0.len, fun a u z => ?_, fun a u z => ?_, R0.f0.trans sF, fun a u z => ?_, fun a z => ?_, ?_, α, fun j y hy => ?_, g2⟩
  · by_cases ha : a = q
    · subst ha; rw [upd_same] at z ⊢; exact z
    · rw [upd_ne ha] at z ⊢; exact R0.fh _ _ z
  · have ha : a ≠ q := fun w => by subst w; rw [bp] at z; cases z
    rw [upd_ne ha]
    exact R0.bh _ _ (by rw [upd_ne ha]; exact z)
  · by_cases ha : a = q
    · subst ha; exact .inr (.inl bp)
    · rw [upd_ne ha] at z
      rcases R0.fr a u z with z | z
      · exact .inl z
      · exact .inr (z.imp (fun z => by rw [upd_ne ha] at z; exact z) id)
  · obtain ⟨u, w⟩ := R0.pt a z
    by_cases ha : a = q
    · subst ha; exact ⟨_, upd_same⟩
    · exact ⟨u, by rw [upd_ne ha]; exact w⟩
  · have T0 := R0.tb.lessB (same_upd bp)
    exact ((T0.updH hp pl).updF2 (h := .frz od (dbO a0 kvs)) upd_same ⟨fun _ z => (by cases z), fun _ z => (by cases z)⟩)
  · have z := g1 j y hy
    have far : ∀ a, upd B q (dbO a0 kvs) a = none → a ≠ q ∧ B a = none := fun a z => by
      have ne : a ≠ q := fun w => by subst w; rw [upd_same] at z; cases z
      exact ⟨ne, by rw [upd_ne ne] at z; exact z⟩
    cases y with
    | un => trivial
    | fz t => obtain ⟨v, a, b⟩ := z; exact ⟨v, a, b.mono sF⟩
    | raw n => obtain ⟨v, a, b⟩ := z; exact ⟨v, a, b⟩
    | ow o =>
      obtain ⟨a, b, c, d, u, e1, e2⟩ := z
      obtain ⟨n1, n2⟩ := far _ c
      exact ⟨a, by rw [upd_ne n1]; exact b, n2, d, u, by rw [upd_ne n1]; exact e1, e2.mono sF⟩
    | pa o =>
      obtain ⟨a, b, c, d, u, e1, e2⟩ := z
      obtain ⟨n1, n2⟩ := far _ c
      exact ⟨a, by rw [upd_ne n1]; exact b, n2, d, u, by rw [upd_ne n1]; exact e1, e2.mono sF⟩
def keyBT (k : BK) : T := .tup [.int k.1, .bl k.2]
def iKsB (i : Nat) : M (List T) := fun ρ => match ρ[i]? with
  | some (.ow (.db ks ts)) => .ok (ks.map keyBT) (ρ.set i (.fz (.db ks ts)))
  | _ => .bad
section
variable {X : Cx} {E : XK} {tg : Expr}
theorem fi_ksB {i : Nat} {x : Str} {p : Pos} (hN : X.N[i]? = some x := by rfl) (hv : Vis X.env.scope x := by first | exact Or.inl rfl | exact Or.inr (Or.inl rfl) | exact Or.inr (Or.inr rfl)) (hd : (x == ("__debug__" : Str)) = false := by decide)
    (hcd : (x == ("__classdict__" : Str)) = false := by decide) : FI X E tg (.Name x p) (iKsB i) := by
  refine pi_imp (pi_keysBB (pe_stillB (pe_var hN hv hd hcd))) fun σ H Q h => ?_
  obtain ⟨k, F, ρ, R, h⟩ := h
  unfold iKsB at h
  split at h
  · rename_i ks ts hρ
    obtain ⟨q, ho, ev, fp, bp, npm, hp, ro, R0⟩ := RS.asideI R hρ
    obtain ⟨a', kvs, rfl, ka, hk, hr⟩ := ro
    refine ⟨.ref q, ev, q, a', kvs, rfl, hp, fun od => ⟨q, a', od, kvs, rfl, upd_same, ?_⟩⟩
    obtain ⟨sF, R2⟩ := RS.lockB R0 fp bp hp od
    have ka2 := ka.mono fun _ _ z => sF _ _ z
    have R3 := RS.setF (t := .db ks ts) (v := .ref q) R2 i ⟨q, a', kvs, rfl, .inr ⟨od, upd_same⟩, ka2, hk, hr.mono sF⟩
    have e1 : σ.set i (some (.ref q)) = σ := by
      apply List.ext_getElem?
      intro j
      rw [List.getElem?_set]
      by_cases hj : i = j
      · subst hj
        rw [if_pos rfl, ev, if_pos (List.getElem?_eq_some_iff.mp ev).1]
      · rw [if_neg hj]
    rw [e1, List.set_set] at R3
    refine h _ _ _ R3 sF ?_
    have hkl : ks.length = kvs.length := by rw [← hk, List.length_map]
    unfold Wk
    rw [show (ks.map keyBT).length = kvs.length by rw [List.length_map]; exact hkl]
    refine ⟨fun j H' hj s => ⟨s _ _ upd_same, hj⟩, fun H' s => ⟨s _ _ upd_same, Nat.le_refl _⟩, fun j H' v H'' hj s y => ?_⟩
    obtain ⟨e1, p, eb, rfl⟩ := y
    have kp := ka2 p (List.mem_of_getElem? eb)
    refine ⟨keyBT p.1, ?_, .inl ⟨e1, ⟨p.2.1, kbV p.1, rfl, kp, ⟨_, _, rfl, rfl, _, _, rfl, rfl, rfl⟩⟩⟩⟩
    rw [← hk, List.map_map, List.getElem?_map, eb]
    rfl
  · exact h.elim
end
end FL

/-! NL1: plain Lean programs of what the readings do; the judgements. -/
namespace FL.NL
open PySem

/-- a plain program: no claim; an exception; a value; a drawn number -/
inductive R (α : Type) where
  | bad | exc (e : Ex) | ok (a : α) | dr (m : Int) (k : Int → R α)
namespace R
variable {α β γ : Type}
def bind0 (r : R α) (k : α → R β) : R β := match r with
  | .bad => .bad
  | .exc e => .exc e
  | .ok a => k a
  | .dr m f => .dr m fun v => (f v).bind0 k
/-- one behind the other -/
@[irreducible] def bind (r : R α) (k : α → R β) : R β := bind0 r k
theorem bind_e {r : R α} {k : α → R β} : r.bind k = r.bind0 k := by unfold bind; rfl
@[simp] theorem bind_ok {a : α} {k : α → R β} : (R.ok a).bind k = k a := by rw [bind_e]; rfl
@[simp] theorem bind_bad {k : α → R β} : (R.bad : R α).bind k = .bad := by rw [bind_e]; rfl
@[simp] theorem bind_exc {e : Ex} {k : α → R β} : (R.exc e : R α).bind k = .exc e := by rw [bind_e]; rfl
@[simp] theorem bind_dr {m : Int} {f : Int → R α} {k : α → R β} : (R.dr m f).bind k = .dr m fun v => (f v).bind k := by
  rw [bind_e]
  show R.dr m (fun v => (f v).bind0 k) = _
  congr 1; funext v; rw [bind_e]
/-- within a comprehension no exception is carried -/
def noX (r : R α) : R α := match r with
  | .bad => .bad
  | .exc _ => .bad
  | .ok a => .ok a
  | .dr m f => .dr m fun v => (f v).noX
@[simp] theorem noX_ok {a : α} : (R.ok a).noX = .ok a := Eq.trans rfl rfl
@[simp] theorem noX_bad : (R.bad : R α).noX = .bad := Eq.trans rfl rfl
/-- all ends are good -/
def All (Q : α → Prop) : R α → Prop
  | .bad => False
  | .exc _ => False
  | .ok a => Q a
  | .dr m k => 0 < m ∧ m < 18446744073709551616 ∧ ∀ v, 0 ≤ v → v < m → All Q (k v)
theorem All.bind {Q : β → Prop} {r : R α} {k : α → R β} (h : All (fun a => All Q (k a)) r) : All Q (r.bind k) := by
  rw [R.bind_e]
  induction r with
  | bad => exact h
  | exc e => exact h
  | ok a => exact h
  | dr m f ih => exact ⟨h.1, h.2.1, fun v h0 h1 => ih v (h.2.2 v h0 h1)⟩
theorem All.mono {Q Q' : α → Prop} {r : R α} (h : All Q r) (hi : ∀ a, Q a → Q' a) : All Q' r := by
  induction r with
  | bad => exact h
  | exc e => exact h
  | ok a => exact hi a h
  | dr m f ih => exact ⟨h.1, h.2.1, fun v h0 h1 => ih v (h.2.2 v h0 h1)⟩
@[simp] theorem All_ok {Q : α → Prop} {a : α} : All Q (.ok a) ↔ Q a := Iff.rfl
end R

/-! ### what is known of the slots -/
/-- the row of drawn numbers -/
def RowOk (o : O) : Prop := ∃ (cs : List Int) (a b c : Int), o = .l [.sl (cs.map T.int), .int a, .int b, .int c] ∧ 0 ≤ a ∧ 0 ≤ b ∧ b < 2147483647
inductive Sp where
  | any | nf | is (x : SV) | lz (ts : List T) | row (lent : Bool)
abbrev Ctx := List Sp
def nfz (x : SV) : Bool := match x with
  | .un => true
  | .fz _ => true
  | _ => false
def Sp.ok : Sp → SV → Prop
  | .any, _ => True
  | .nf, x => nfz x = true
  | .is y, x => x = y
  | .lz ts, x => x = .ow (.l ts) ∨ x = .fz (.lst ts)
  | .row b, x => ∃ o, x = (if b = true then SV.pa o else SV.ow o) ∧ RowOk o
structure St (ρ : Env) (Γ : Ctx) : Prop where
  len : ρ.length = Γ.length
  get : ∀ (i : Nat) (p : Sp), Γ[i]? = some p → ∃ x, ρ[i]? = some x ∧ p.ok x
theorem St.is {ρ : Env} {Γ : Ctx} (h : St ρ Γ) {i : Nat} {x : SV} (e : Γ[i]? = some (.is x)) : ρ[i]? = some x := by
  obtain ⟨y, e1, e2⟩ := h.get i _ e
  have e2 : y = x := e2
  rw [e1, e2]
theorem St.set {ρ : Env} {Γ : Ctx} (h : St ρ Γ) {p : Sp} {x : SV} (hp : p.ok x) (i : Nat) : St (ρ.set i x) (Γ.set i p) := by
  refine ⟨by simp [h.len], fun j q e => ?_⟩
  by_cases hj : i = j
  · subst hj
    have hl : i < Γ.length := by
      have := (List.getElem?_eq_some_iff.mp e).1
      simpa using this
    rw [List.getElem?_set_self hl] at e
    cases e
    exact ⟨x, List.getElem?_set_self (by rw [h.len]; exact hl), hp⟩
  · rw [List.getElem?_set_ne hj] at e
    obtain ⟨y, e1, e2⟩ := h.get j q e
    exact ⟨y, by rw [List.getElem?_set_ne hj]; exact e1, e2⟩
inductive SpLe : Sp → Sp → Prop
  | refl (p : Sp) : SpLe p p
  | any (p : Sp) : SpLe p .any
  | nfz (t : T) : SpLe (.is (.fz t)) .nf
  | nun : SpLe (.is .un) .nf
  | low (ts : List T) : SpLe (.is (.ow (.l ts))) (.lz ts)
  | lfz (ts : List T) : SpLe (.is (.fz (.lst ts))) (.lz ts)
  | mkrow (cs : List Int) (c : Int) (h0 : 0 ≤ c) (h1 : c < 2147483647) : SpLe (.is (.ow (.l [.sl (cs.map T.int), .int 0, .int c, .int 0]))) (.row false)
theorem SpLe.ok {p q : Sp} (h : SpLe p q) {x : SV} (hx : p.ok x) : q.ok x := by
  cases h with
  | refl => exact hx
  | any p => trivial
  | nfz t => have hx : x = .fz t := hx; subst hx; rfl
  | nun => have hx : x = .un := hx; subst hx; rfl
  | low ts => exact .inl hx
  | lfz ts => exact .inr hx
  | mkrow cs c h0 h1 => exact ⟨_, hx, cs, 0, c, 0, rfl, by decide, h0, h1⟩
inductive Le : Ctx → Ctx → Prop
  | nil : Le [] []
  | cons {p q : Sp} {Γ Γ' : Ctx} (h : SpLe p q) (t : Le Γ Γ') : Le (p :: Γ) (q :: Γ')
theorem Le.length {Γ Γ' : Ctx} (h : Le Γ Γ') : Γ.length = Γ'.length := by
  induction h with
  | nil => rfl
  | cons _ _ ih => simp [ih]
theorem Le.get {Γ Γ' : Ctx} (h : Le Γ Γ') : ∀ {i : Nat} {q : Sp}, Γ'[i]? = some q → ∃ p, Γ[i]? = some p ∧ SpLe p q := by
  induction h with
  | nil => intro i q e; simp at e
  | cons hp _ ih =>
    intro i q e
    cases i with
    | zero => simp at e; subst e; exact ⟨_, rfl, hp⟩
    | succ i => exact ih (by simpa using e)
theorem St.le {ρ : Env} {Γ Γ' : Ctx} (h : St ρ Γ) (l : Le Γ Γ') : St ρ Γ' := by
  refine ⟨h.len.trans l.length, fun i q e => ?_⟩
  obtain ⟨p, e1, hl⟩ := l.get e
  obtain ⟨x, e2, hx⟩ := h.get i p e1
  exact ⟨x, e2, hl.ok hx⟩
theorem Le.k {p : Sp} {Γ Γ' : Ctx} (t : Le Γ Γ') : Le (p :: Γ) (p :: Γ') := .cons (.refl p) t
theorem Le.d {p : Sp} {Γ Γ' : Ctx} (t : Le Γ Γ') : Le (p :: Γ) (.any :: Γ') := .cons (.any p) t
theorem Le.n {t : T} {Γ Γ' : Ctx} (t' : Le Γ Γ') : Le (.is (.fz t) :: Γ) (.nf :: Γ') := .cons (.nfz t) t'
theorem Le.u {Γ Γ' : Ctx} (t' : Le Γ Γ') : Le (.is .un :: Γ) (.nf :: Γ') := .cons .nun t'
theorem Le.lo {ts : List T} {Γ Γ' : Ctx} (t : Le Γ Γ') : Le (.is (.ow (.l ts)) :: Γ) (.lz ts :: Γ') := .cons (.low ts) t
/-! ### judgements -/
variable {α β γ δ σ : Type}
/-- x (what a reading gives) is as the program r says; P: of r's value and x -/
def Good (P : γ → Res β → Prop) (x : Res β) : R γ → Prop
  | .bad => True
  | .exc e => x = .exc e
  | .ok v => P v x
  | .dr m k => 0 < m → m < 18446744073709551616 → ∃ v, 0 ≤ v ∧ v < m ∧ Good P x (k v)
theorem Good.bind {P : γ → Res β → Prop} {x : Res β} {r : R α} {k : α → R γ} (h : Good (fun a x => Good P x (k a)) x r) : Good P x (r.bind k) := by
  rw [R.bind_e]
  induction r with
  | bad => trivial
  | exc e => exact h
  | ok a => exact h
  | dr m f ih => exact fun h0 h1 => let ⟨v, a, b, c⟩ := h h0 h1; ⟨v, a, b, ih v c⟩
theorem good_ok {P : γ → Res β → Prop} {x : Res β} {a : α} {k : α → R γ} (h : Good P x (k a)) : Good P x ((R.ok a).bind k) := by rw [R.bind_ok]; exact h
theorem Good.mono {P P' : γ → Res β → Prop} {x : Res β} {r : R γ} (h : Good P x r) (hi : ∀ v, P v x → P' v x) : Good P' x r := by
  induction r with
  | bad => trivial
  | exc e => exact h
  | ok a => exact hi a h
  | dr m f ih => exact fun h0 h1 => let ⟨v, a, b, c⟩ := h h0 h1; ⟨v, a, b, ih v c⟩
/-- from what a part gives to what the whole gives -/
theorem Good.next {δ : Type} {P : γ → Res β → Prop} {y : Res δ} {x : Res β} {Q : α → Res δ → Prop} {r : R α} {k : α → R γ} (h : Good Q y r) (hx : ∀ e, y = .exc e → x = .exc e) (hi : ∀ a, Q a y → Good P x (k a)) : Good P x (r.bind k) := by
  rw [R.bind_e]
  induction r with
  | bad => trivial
  | exc e => exact hx e h
  | ok a => exact hi a h
  | dr m f ih => exact fun h0 h1 => let ⟨v, a, b, c⟩ := h h0 h1; ⟨v, a, b, ih v c⟩
theorem Good.all {P : γ → Res β → Prop} {x : Res β} {Q : γ → Prop} {r : R γ} (h : Good P x r) (a : R.All Q r) : ∃ v, Q v ∧ P v x := by
  induction r with
  | bad => exact a.elim
  | exc e => exact a.elim
  | ok v => exact ⟨v, a, h⟩
  | dr m f ih => obtain ⟨v, h0, h1, c⟩ := h a.1 a.2.1; exact ih v c (a.2.2 v h0 h1)
theorem Good.noX {P : γ → Res β → Prop} {x : Res β} {r : R γ} (h : Good P x r) : Good P x r.noX := by
  induction r with
  | bad => trivial
  | exc e => trivial
  | ok v => exact h
  | dr m f ih => exact fun h0 h1 => let ⟨v, a, b, c⟩ := h h0 h1; ⟨v, a, b, ih v c⟩
/-- an expression (a test, arguments, what is walked): r is its program with k behind it -/
def EW (Γ : Ctx) (e : M δ) (r : R γ) (k : α → R γ) (f : α → δ) (Γ' : Ctx) : Prop :=
  ∀ (β : Type) (P : γ → Res β → Prop) (K : δ → Env → Res β), (∀ a ρ, St ρ Γ' → Good P (K (f a) ρ) (k a)) → ∀ ρ, St ρ Γ → Good P ((e ρ).bind K) r
/-- a statement, or a block -/
def SW (Γ : Ctx) (s : MS) (r : R γ) (P : γ → Res Fl → Prop) : Prop := ∀ ρ, St ρ Γ → Good P (s ρ) r
/-- a target -/
def GW (Γ : Ctx) (g : MG) (t : T) (Γ' : Ctx) : Prop := ∀ ρ, St ρ Γ → ∃ ρ', g t ρ = some ρ' ∧ St ρ' Γ'
def GsW (Γ : Ctx) (g : MGs) (ts : List T) (Γ' : Ctx) : Prop := ∀ ρ, St ρ Γ → ∃ ρ', g ts ρ = some ρ' ∧ St ρ' Γ'
/-- an operation of trees is as r says -/
def Lo (x : Option δ) (r : R α) (f : α → δ) : Prop := match r with
  | .bad => True
  | .ok v => x = some (f v)
  | _ => False
theorem res_bind_assoc {x : Res α} {k : α → Env → Res β} {l : β → Env → Res γ} : (x.bind k).bind l = x.bind fun a ρ => (k a ρ).bind l := by
  cases x <;> rfl
section
variable {Γ Γ' Γ'' Γ3 : Ctx} {e e1 e2 e3 : M T} {r : R γ} {f : α → δ} {k : α → R γ}
theorem ew_pure {e : M δ} {a : α} (h : ∀ ρ, St ρ Γ → e ρ = .ok (f a) ρ) : EW Γ e (k a) k f Γ := fun β P K hk ρ hs => by
  rw [h ρ hs]; exact hk a ρ hs
theorem ew_bind {δ' α' : Type} {e : M δ'} {f : α' → δ'} {g : δ' → M δ} {f' : α → δ} {k1 : α' → R γ} (h : EW Γ e r k1 f Γ') (hg : ∀ a, EW Γ' (g (f a)) (k1 a) k f' Γ'') : EW Γ (fun ρ => (e ρ).bind g) r k f' Γ'' := fun β P K hk ρ hs => by
  rw [res_bind_assoc]
  exact h β P _ (fun a ρ' hs' => hg a β P K hk ρ' hs') ρ hs
theorem ew_lift {x : Option δ} {r0 : R α} (h : Lo x r0 f) : EW Γ (liftO x) (r0.bind k) k f Γ := fun β P K hk ρ hs => by
  rw [R.bind_e]
  cases r0 with
  | bad => trivial
  | exc e => exact h.elim
  | ok v =>
    have h : x = some (f v) := h
    rw [h]; exact hk v ρ hs
  | dr m f => exact h.elim
theorem ew_tot {x : Option δ} {a : α} (h : x = some (f a)) : EW Γ (liftO x) (k a) k f Γ := fun β P K hk ρ hs => by
  rw [h]; exact hk a ρ hs
/-! names, constants -/
theorem ew_var {i : Nat} (a : α) (f : α → T) {k : α → R γ} (h : Γ[i]? = some (.is (.fz (f a))) := by rfl) : EW Γ (rdA i) (k a) k f Γ :=
  ew_pure fun ρ hs => by unfold rdA; rw [hs.is h]
theorem ew_frz {i : Nat} (a : α) (f : α → T) {k : α → R γ} {o : O} (h : Γ[i]? = some (.is (.ow o)) := by rfl) (ho : frzO o = f a := by rfl) : EW Γ (rdA i) (k a) k f (Γ.set i (.is (.fz (f a)))) := fun β P K hk ρ hs => by
  unfold rdA
  rw [hs.is h]
  show Good P (K (frzO o) (ρ.set i (.fz (frzO o)))) _
  rw [ho]
  exact hk a _ (hs.set (p := .is _) rfl i)
theorem ew_con {t : T} (a : α) (f : α → T) {k : α → R γ} (h : f a = t := by rfl) : EW Γ (rdC t) (k a) k f Γ :=
  ew_pure fun ρ hs => by rw [h]; rfl
theorem ew_cst {e : M δ} (a : α) (f : α → δ) {k : α → R γ} (h : ∀ ρ, e ρ = .ok (f a) ρ := by intro _; rfl) : EW Γ e (k a) k f Γ := ew_pure fun ρ _ => h ρ
theorem ew_bindv {e : M δ} {f : α → δ} {k : α → R γ} (D : EW Γ e r (fun a => (R.ok a).bind k) f Γ') : EW Γ e r k f Γ' := by simpa only [R.bind_ok] using D
/-- a plain value, whatever stands behind it -/
theorem ew_val {e : M δ} {a : α} {f : α → δ} (h : ∀ {γ : Type} (k : α → R γ), EW Γ e (k a) k f Γ') {ρ : Env} (hs : St ρ Γ) : ∃ ρ', e ρ = .ok (f a) ρ' ∧ St ρ' Γ' := by
  classical
  have := h (fun b => if b = a then R.ok () else .bad) δ (fun _ x => ∃ ρ', x = .ok (f a) ρ' ∧ St ρ' Γ') (fun y ρ => .ok y ρ) (fun b ρ' hs' => by
    by_cases hb : b = a
    · simp only [hb, if_true]; exact ⟨ρ', rfl, hs'⟩
    · simp only [hb, if_false]; trivial) ρ hs
  simp only [if_true] at this
  obtain ⟨ρ', e1, hs'⟩ := this
  refine ⟨ρ', ?_, hs'⟩
  cases he : e ρ with
  | bad => rw [he] at e1; cases e1
  | exc x => rw [he] at e1; cases e1
  | ok y ρ2 => rw [he] at e1; exact e1
/-! operators -/
theorem ew_op2 {α1 α2 : Type} {o : T → T → Option T} {f1 : α1 → T} {f2 : α2 → T} {f : α → T} {k1 : α1 → R γ} {w : α1 → α2 → α} (hw : ∀ a b, o (f1 a) (f2 b) = some (f (w a b)))
    (h1 : EW Γ e1 r k1 f1 Γ') (h2 : ∀ a, EW Γ' e2 (k1 a) (fun b => k (w a b)) f2 Γ'') : EW Γ (op2 o e1 e2) r k f Γ'' :=
  ew_bind h1 fun a => ew_bind (h2 a) fun b => ew_tot (hw a b)
theorem ew_op2p {α1 α2 : Type} {o : T → T → Option T} {f1 : α1 → T} {f2 : α2 → T} {f : α → T} {k1 : α1 → R γ} {r0 : α1 → α2 → R α} (hw : ∀ a b, Lo (o (f1 a) (f2 b)) (r0 a b) f)
    (h1 : EW Γ e1 r k1 f1 Γ') (h2 : ∀ a, EW Γ' e2 (k1 a) (fun b => (r0 a b).bind k) f2 Γ'') : EW Γ (op2 o e1 e2) r k f Γ'' :=
  ew_bind h1 fun a => ew_bind (h2 a) fun b => ew_lift (hw a b)
theorem ew_op1 {α1 : Type} {o : T → Option T} {f1 : α1 → T} {f : α → T} {w : α1 → α} (hw : ∀ a, o (f1 a) = some (f (w a)))
    (h1 : EW Γ e1 r (fun a => k (w a)) f1 Γ') : EW Γ (op1 o e1) r k f Γ' := ew_bind h1 fun a => ew_tot (hw a)
/-! tests and truth values -/
def eB (b : Bool) : T := .bl b
def idB (b : Bool) : Bool := b
theorem ew_tst {k : Bool → R γ} (h : EW Γ e r k eB Γ') : EW Γ (tst e) r k idB Γ' := ew_bind h fun a => ew_tot (k := k) (f := idB) (a := a) rfl
theorem ew_truth {α1 : Type} {k : Bool → R γ} {f1 : α1 → T} {w : α1 → Bool} (hw : ∀ a, tru (f1 a) = some (w a)) (h : EW Γ e r (fun a => k (w a)) f1 Γ') : EW Γ (truth e) r k idB Γ' :=
  ew_bind h fun a => ew_tot (k := k) (f := idB) (a := w a) (hw a)
theorem ew_notT {g : M Bool} {k : Bool → R γ} (h : EW Γ g r (fun b => k (!b)) idB Γ') : EW Γ (notT g) r k idB Γ' := fun β P K hk ρ hs => by
  unfold notT
  rw [res_bind_assoc]
  exact h β P _ (fun b ρ' hs' => hk (!b) ρ' hs') ρ hs
/-- a part's program by itself -/
abbrev EV (Γ : Ctx) (e : M δ) (r : R α) (f : α → δ) (Γ' : Ctx) : Prop := EW Γ e r (fun a => .ok a) f Γ'
theorem ew_own {e : M δ} {r0 : R α} (h : EV Γ e r0 f Γ') : EW Γ e (r0.bind k) k f Γ' := fun β P K hk ρ hs => by
  have := h (β := δ) (P := fun a x => ∃ ρ', x = .ok (f a) ρ' ∧ St ρ' Γ') (fun y ρ => .ok y ρ) (fun a ρ' hs' => ⟨ρ', rfl, hs'⟩) ρ hs
  have e2 : ((e ρ).bind fun y ρ => Res.ok y ρ) = e ρ := by cases e ρ <;> rfl
  rw [e2] at this
  refine this.next (fun x hx => by rw [hx]; rfl) fun a ⟨ρ', hx, hs'⟩ => ?_
  rw [hx]; exact hk a ρ' hs'
/-- and, or, with effects on the right -/
theorem ew_andTx {g h : M Bool} {k : Bool → R γ} {rb : R Bool} (h1 : EW Γ g r (fun a => (if a = true then rb else .ok false).bind k) idB Γ') (h2 : EV Γ' h rb idB Γ') : EW Γ (andT g h) r k idB Γ' := fun β P K hk ρ hs => by
  unfold andT
  rw [res_bind_assoc]
  refine h1 β P _ (fun a ρ' hs' => ?_) ρ hs
  cases a with
  | true => exact ew_own h2 β P K (fun b ρ2 hs2 => hk b ρ2 hs2) ρ' hs'
  | false => exact good_ok (hk false ρ' hs')
theorem ew_orTx {g h : M Bool} {k : Bool → R γ} {rb : R Bool} (h1 : EW Γ g r (fun a => (if a = true then .ok true else rb).bind k) idB Γ') (h2 : EV Γ' h rb idB Γ') : EW Γ (orT g h) r k idB Γ' := fun β P K hk ρ hs => by
  unfold orT
  rw [res_bind_assoc]
  refine h1 β P _ (fun a ρ' hs' => ?_) ρ hs
  cases a with
  | false => exact ew_own h2 β P K (fun b ρ2 hs2 => hk b ρ2 hs2) ρ' hs'
  | true => exact good_ok (hk true ρ' hs')
/-! the same as values -/
theorem ew_notV {k : Bool → R γ} (h : EW Γ e r (fun b => k (!b)) eB Γ') : EW Γ (notV e) r k eB Γ' := fun β P K hk ρ hs => by
  unfold notV
  rw [res_bind_assoc]
  exact h β P _ (fun b ρ' hs' => hk (!b) ρ' hs') ρ hs
theorem ew_andV {k : Bool → R γ} {b2 : Bool} (h1 : EW Γ e1 r (fun a => k (a && b2)) eB Γ') (h2 : ∀ {γ : Type} (k : Bool → R γ), EW Γ' e2 (k b2) k eB Γ') : EW Γ (andV e1 e2) r k eB Γ' := fun β P K hk ρ hs => by
  unfold andV
  rw [res_bind_assoc]
  refine h1 β P _ (fun a ρ' hs' => ?_) ρ hs
  cases a with
  | true => exact h2 k β P K (fun b ρ2 hs2 => hk b ρ2 hs2) ρ' hs'
  | false => exact hk false ρ' hs'
/-- a if t else b: both plain -/
theorem ew_if {g : M Bool} {a b : α} {f : α → T} (h : EW Γ g r (fun c => k (if c = true then a else b)) idB Γ') (ha : ∀ {γ : Type} (k : α → R γ), EW Γ' e1 (k a) k f Γ') (hb : ∀ {γ : Type} (k : α → R γ), EW Γ' e2 (k b) k f Γ') : EW Γ (ifE g e1 e2) r k f Γ' := fun β P K hk ρ hs => by
  unfold ifE
  rw [res_bind_assoc]
  refine h β P _ (fun c ρ' hs' => ?_) ρ hs
  cases c with
  | true => exact ha k β P K (fun b ρ2 hs2 => hk b ρ2 hs2) ρ' hs'
  | false => exact hb k β P K (fun b ρ2 hs2 => hk b ρ2 hs2) ρ' hs'
theorem ew_ifx {g : M Bool} {ra rb : R α} {f : α → T} (h : EW Γ g r (fun c => (if c = true then ra else rb).bind k) idB Γ') (ha : EV Γ' e1 ra f Γ'') (hb : EV Γ' e2 rb f Γ'') : EW Γ (ifE g e1 e2) r k f Γ'' := fun β P K hk ρ hs => by
  unfold ifE
  rw [res_bind_assoc]
  refine h β P _ (fun c ρ' hs' => ?_) ρ hs
  cases c with
  | true => exact ew_own ha β P K (fun b ρ2 hs2 => hk b ρ2 hs2) ρ' hs'
  | false => exact ew_own hb β P K (fun b ρ2 hs2 => hk b ρ2 hs2) ρ' hs'
/-- a < b < c, all plain -/
theorem ew_chn {α1 α2 α3 : Type} {o o' : T → T → Option T} {f1 : α1 → T} {f2 : α2 → T} {f3 : α3 → T} {k1 : α1 → R γ} {k : Bool → R γ} {w : α1 → α2 → Bool} {w' : α2 → α3 → Bool} {c : α3} (hw : ∀ a b, o (f1 a) (f2 b) = some (.bl (w a b))) (hw' : ∀ a b, o' (f2 a) (f3 b) = some (.bl (w' a b)))
    (h1 : EW Γ e1 r k1 f1 Γ') (h2 : ∀ a, EW Γ' e2 (k1 a) (fun b => k (w a b && w' b c)) f2 Γ'') (h3 : ∀ {γ : Type} (k : α3 → R γ), EW Γ'' e3 (k c) k f3 Γ'') : EW Γ (chn o o' e1 e2 e3) r k eB Γ'' := by
  refine ew_bind h1 fun a => ew_bind (h2 a) fun b => ?_
  intro β P K hk ρ hs
  rw [hw a b]
  show Good P ((match (some (T.bl (w a b))).bind toB with
    | some true => (e3 ρ).bind fun z ρ => liftO (o' (f2 b) z) ρ
    | some false => Res.ok (.bl false) ρ
    | none => .bad).bind K) _
  cases h : w a b with
  | false => exact hk false ρ hs
  | true => 
    show Good P (((e3 ρ).bind fun z ρ => liftO (o' (f2 b) z) ρ).bind K) _
    rw [res_bind_assoc]
    refine h3 (fun c => k (w' b c)) β P _ (fun z ρ' hs' => ?_) ρ hs
    rw [hw' b z]
    exact hk _ ρ' hs'
/-! arguments, calls -/
def aN (_ : Unit) : List T := []
def aC (f : α → T) (g : β → List T) (p : α × β) : List T := f p.1 :: g p.2
theorem ew_nil {k : Unit → R γ} : EW Γ rdNil (k ()) k aN Γ := ew_pure fun ρ hs => rfl
theorem ew_cons {α1 α2 : Type} {es : M (List T)} {f1 : α1 → T} {f2 : α2 → List T} {k1 : α1 → R γ} {k : α1 × α2 → R γ} (h1 : EW Γ e r k1 f1 Γ') (h2 : ∀ a, EW Γ' es (k1 a) (fun b => k (a, b)) f2 Γ'') : EW Γ (rdCons e es) r k (aC f1 f2) Γ'' := by
  refine ew_bind h1 fun a => ew_bind (h2 a) fun b => ?_
  exact ew_pure (a := (a, b)) fun ρ hs => rfl
theorem ew_calF {α1 : Type} {o : List T → Option T} {es : M (List T)} {f1 : α1 → List T} {f : α → T} {w : α1 → α} (hw : ∀ a, o (f1 a) = some (f (w a))) (h : EW Γ es r (fun a => k (w a)) f1 Γ') : EW Γ (calF o es) r k f Γ' := ew_bind h fun a => ew_tot (hw a)
theorem ew_calFp {α1 : Type} {o : List T → Option T} {es : M (List T)} {f1 : α1 → List T} {f : α → T} {r0 : α1 → R α} (hw : ∀ a, Lo (o (f1 a)) (r0 a) f) (h : EW Γ es r (fun a => (r0 a).bind k) f1 Γ') : EW Γ (calF o es) r k f Γ' := ew_bind h fun a => ew_lift (hw a)
theorem ew_calO {α1 : Type} {o : List T → Option O} {es : M (List T)} {f1 : α1 → List T} {f : α → O} {w : α1 → α} (hw : ∀ a, o (f1 a) = some (f (w a))) (h : EW Γ es r (fun a => k (w a)) f1 Γ') : EW Γ (calO o es) r k f Γ' := ew_bind h fun a => ew_tot (hw a)
theorem ew_calIp {α1 : Type} {o : List T → Option (List T)} {es : M (List T)} {f1 : α1 → List T} {f : α → List T} {r0 : α1 → R α} (hw : ∀ a, Lo (o (f1 a)) (r0 a) f) (h : EW Γ es r (fun a => (r0 a).bind k) f1 Γ') : EW Γ (calI o es) r k f Γ' := ew_bind h fun a => ew_lift (hw a)
/-- a def is as the program says -/
structure Fn (F : Sg) (ts : List T) (r : R α) (f : α → T) : Prop where
  ok : Good (fun v x => x = .ok (f v) []) (F ts) r
theorem ew_call {α1 : Type} {F : Sg} {es : M (List T)} {f1 : α1 → List T} {f : α → T} {N : α1 → R α} (hF : ∀ a, Fn F (f1 a) (N a) f) (h : EW Γ es r (fun a => (N a).bind k) f1 Γ') : EW Γ (calU F es) r k f Γ' := by
  refine ew_bind h fun a => ?_
  intro β P K hk ρ hs
  refine Good.next (hF a).ok (fun e he => by rw [he]; rfl) fun v hv => ?_
  rw [hv]; exact hk v ρ hs
/-- a def that changes the row -/
def FnM (F : SgM) (ts : List T) (r : R α) (f : α → T) : Prop := ∀ o, RowOk o → Good (fun v x => ∃ o' ρ, RowOk o' ∧ x = .ok (f v, o') ρ) (F o ts) r.noX
theorem Good.calm {P : γ → Res β → Prop} {y : Res (T × O)} {x : Res β} {Q : α → Res (T × O) → Prop} {r : R α} {k : α → R γ} (h : Good Q y r.noX) (hi : ∀ a, Q a y → Good P x (k a)) : Good P x (r.noX.bind k) := by
  rw [R.bind_e]
  induction r with
  | bad => trivial
  | exc e => trivial
  | ok a => exact hi a h
  | dr m f ih => exact fun h0 h1 => let ⟨v, a, b, c⟩ := h h0 h1; ⟨v, a, b, ih v c⟩
theorem ew_callM {α1 : Type} {i : Nat} {F : SgM} {es : M (List T)} {f1 : α1 → List T} {f : α → T} {N : α1 → R α} {b : Bool} (hF : ∀ a, FnM F (f1 a) (N a) f) (h : EW Γ es r (fun a => (N a).noX.bind k) f1 Γ') (h0 : Γ[i]? = some (.row b) := by rfl) (hi : Γ'[i]? = some (.row b) := by rfl) : EW Γ (calM F i es) r k f Γ' := by
  intro β P K hk ρ hs
  unfold calM withOwn
  obtain ⟨x0, ex0, o0, hx0, _⟩ := hs.get i _ h0
  have e0 : rdOwn i ρ = some o0 := by unfold rdOwn; rw [ex0, hx0]; cases b <;> rfl
  rw [e0]
  simp only
  rw [res_bind_assoc]
  refine h β P _ (fun a ρ' hs' => ?_) ρ hs
  obtain ⟨x, ex, o, hx, ho⟩ := hs'.get i _ hi
  have e1 : rdOwn i ρ' = some o := by unfold rdOwn; rw [ex, hx]; cases b <;> rfl
  rw [e1]
  refine (hF a o ho).calm fun v ⟨o', ρ2, ho', hv⟩ => ?_
  simp only
  rw [hv]
  refine hk v _ ?_
  unfold setOwn
  rw [ex]
  refine ⟨by simpa using hs'.len, fun j q ej => ?_⟩
  by_cases hj : i = j
  · subst hj
    rw [hi] at ej; cases ej
    have hl := (List.getElem?_eq_some_iff.mp ex).1
    refine ⟨_, List.getElem?_set_self hl, o', ?_, ho'⟩
    rw [hx]; cases b <;> rfl
  · simp only [List.getElem?_set_ne hj]; exact hs'.get j q ej
end
end FL.NL

/-! NL2: statements, loops, comprehensions, defs. -/
namespace FL.NL
open PySem
variable {α β γ δ σ : Type}
section
variable {Γ Γ' Γ'' Γ3 : Ctx} {e e1 e2 e3 : M T} {r : R γ} {f : α → T} {k : α → R γ} {s s1 s2 : MS} {P : γ → Res Fl → Prop} {i j : Nat}
theorem blt_lt {a b : Nat} (h : Nat.blt a b = true) : a < b := Nat.le_of_ble_eq_true h
/-! ### ends of blocks -/
/-- a block that only goes on -/
def PN (Δ : σ → Ctx) (v : σ) (x : Res Fl) : Prop := ∃ ρ, x = .ok .nx ρ ∧ St ρ (Δ v)
/-- a loop's body that only goes on -/
def PL (Δ : σ → Ctx) (v : σ) (x : Res Fl) : Prop := ∃ ρ, (x = .ok .nx ρ ∨ x = .ok .ct ρ) ∧ St ρ (Δ v)
/-- a def's body -/
def PF (f : α → T) (v : α) (x : Res Fl) : Prop := (∃ ρ, x = .ok (.rt (f v)) ρ) ∨ (f v = .non ∧ ∃ ρ, x = .ok .nx ρ)
/-- the body of a def that was lent the row -/
def PM (f : α → T) (v : α) (x : Res Fl) : Prop := ∃ ρ o, lent ρ = some o ∧ RowOk o ∧ (x = .ok (.rt (f v)) ρ ∨ (f v = .non ∧ x = .ok .nx ρ))
/-- how a loop's turn ends -/
inductive Ct (σ β : Type) where
  | nx (s : σ) | bk (s : σ) | rt (b : β)
/-- how a loop ends -/
inductive Lp (σ β : Type) where
  | nx (s : σ) | rt (b : β)
def PC (Pr : β → Res Fl → Prop) (Δ : σ → Ctx) (v : Ct σ β) (x : Res Fl) : Prop := match v with
  | .nx s => ∃ ρ, (x = .ok .nx ρ ∨ x = .ok .ct ρ) ∧ St ρ (Δ s)
  | .bk s => ∃ ρ, x = .ok .bk ρ ∧ St ρ (Δ s)
  | .rt b => (∃ t ρ, x = .ok (.rt t) ρ) ∧ Pr b x
theorem sw_last (h : SW Γ (sq s skip) r P) : SW Γ s r P := fun ρ hs => by
  have e : sq s skip ρ = s ρ := by
    unfold sq
    cases s ρ with
    | bad => rfl
    | exc e => rfl
    | ok fl ρ' => cases fl <;> rfl
  rw [← e]; exact h ρ hs
theorem sw_skip (h : SW Γ s r P) : SW Γ (sq skip s) r P := h
theorem sw_assoc (h : SW Γ (sq s (sq s1 s2)) r P) : SW Γ (sq (sq s s1) s2) r P := fun ρ hs => by
  have e : sq (sq s s1) s2 ρ = sq s (sq s1 s2) ρ := by
    unfold sq
    cases s ρ with
    | bad => rfl
    | exc e => rfl
    | ok fl ρ' => cases fl <;> rfl
  rw [e]; exact h ρ hs
theorem sw_endN {Δ : σ → Ctx} (st : σ) (l : Le Γ (Δ st)) : SW Γ skip (.ok st) (PN Δ) := fun ρ hs => ⟨ρ, rfl, hs.le l⟩
theorem sw_endL {Δ : σ → Ctx} (st : σ) (l : Le Γ (Δ st)) : SW Γ skip (.ok st) (PL Δ) := fun ρ hs => ⟨ρ, .inl rfl, hs.le l⟩
theorem sw_endF {f : α → T} (a : α) (h : f a = .non := by rfl) : SW Γ skip (.ok a) (PF f) := fun ρ hs => .inr ⟨h, ρ, rfl⟩
theorem sw_endC {Pr : β → Res Fl → Prop} {Δ : σ → Ctx} (st : σ) (l : Le Γ (Δ st)) : SW Γ skip (.ok (.nx st)) (PC Pr Δ) := fun ρ hs => ⟨ρ, .inl rfl, hs.le l⟩
theorem sq_dead {s : MS} (hd : ∀ ρ, match s ρ with | .ok .nx _ => False | _ => True) : sq s s2 = s := by
  funext ρ
  have := hd ρ
  unfold sq
  cases e : s ρ with
  | bad => rfl
  | exc e => rfl
  | ok fl ρ' =>
    rw [e] at this
    cases fl with
    | nx => exact this.elim
    | rt t => rfl
    | bk => rfl
    | ct => rfl
theorem dead_ret {e : M T} : ∀ ρ, match sRet e ρ with | .ok .nx _ => False | _ => True := fun ρ => by
  unfold sRet
  cases e ρ <;> trivial
theorem sw_retF {r : R α} (h : EW Γ e r (fun a => .ok a) f Γ') : SW Γ (sq (sRet e) s2) r (PF f) := by
  rw [sq_dead dead_ret]
  intro ρ hs
  exact h Fl (PF f) (fun t ρ => .ok (.rt t) ρ) (fun a ρ' hs' => .inl ⟨ρ', rfl⟩) ρ hs
theorem sw_retM {r : R α} (h : EW Γ e r (fun a => .ok a) f Γ') (h0 : Γ'[0]? = some (.row true) := by rfl) : SW Γ (sq (sRet e) s2) r (PM f) := by
  rw [sq_dead dead_ret]
  intro ρ hs
  refine h Fl (PM f) (fun t ρ => .ok (.rt t) ρ) (fun a ρ' hs' => ?_) ρ hs
  obtain ⟨x, ex, o, hx, ho⟩ := hs'.get 0 _ h0
  have hx : x = .pa o := hx
  subst hx
  refine ⟨ρ', o, ?_, ho, .inl rfl⟩
  cases ρ' with
  | nil => simp at ex
  | cons y ys => simp at ex; subst ex; rfl
theorem sw_retCF {Δ : σ → Ctx} {r : R (Ct σ α)} (h : EW Γ e r (fun a => .ok (Ct.rt a)) f Γ') : SW Γ (sq (sRet e) s2) r (PC (PF f) Δ) := by
  rw [sq_dead dead_ret]
  intro ρ hs
  exact h Fl (PC (PF f) Δ) (fun t ρ => .ok (.rt t) ρ) (fun a ρ' hs' => ⟨⟨_, _, rfl⟩, .inl ⟨ρ', rfl⟩⟩) ρ hs
/-! ### simple statements -/
theorem sw_set (h : EW Γ e r k f Γ') (hn : ∀ a, SW (Γ'.set i (.is (.fz (f a)))) s2 (k a) P) (hi : Nat.blt i Γ'.length = true := by rfl) : SW Γ (sq (sSet i (asT e)) s2) r P := fun ρ hs => by
  have e1 : sq (sSet i (asT e)) s2 ρ = (e ρ).bind fun t ρ => if i < ρ.length then s2 (ρ.set i (.fz t)) else .bad := by
    unfold sq sSet asT put
    cases e ρ with
    | bad => rfl
    | exc e => rfl
    | ok t ρ' =>
      show ((if i < ρ'.length then Res.ok Fl.nx (ρ'.set i (.fz t)) else .bad).bind _) = if i < ρ'.length then _ else _
      split <;> rfl
  rw [e1]
  refine h Fl P _ (fun a ρ' hs' => ?_) ρ hs
  rw [if_pos (by rw [hs'.len]; exact blt_lt hi)]
  exact hn a _ (hs'.set (p := .is _) rfl i)
theorem sw_bad : SW Γ (sq bad s2) (.bad : R γ) P := fun ρ hs => trivial
/-- plain values -/
theorem sq_ok {s s2 : MS} {ρ ρ' : Env} (h : s ρ = .ok .nx ρ') : sq s s2 ρ = s2 ρ' := by unfold sq; rw [h]; rfl
theorem sw_setp (a : α) (h : ∀ {γ : Type} (k : α → R γ), EW Γ e (k a) k f Γ') (hn : SW (Γ'.set i (.is (.fz (f a)))) s2 r P) (hi : Nat.blt i Γ'.length = true := by rfl) : SW Γ (sq (sSet i (asT e)) s2) r P := fun ρ hs => by
  obtain ⟨ρ', e1, hs'⟩ := ew_val h hs
  have e2 : sSet i (asT e) ρ = .ok .nx (ρ'.set i (.fz (f a))) := by
    have hl : i < ρ'.length := by rw [hs'.len]; exact blt_lt hi
    simp [e1, hl]
  rw [sq_ok e2]
  exact hn _ (hs'.set (p := .is _) rfl i)
theorem sw_setOp {eo : M O} {f : α → O} (a : α) (h : ∀ {γ : Type} (k : α → R γ), EW Γ eo (k a) k f Γ') (hn : SW (Γ'.set i (.is (.ow (f a)))) s2 r P) (hi : Nat.blt i Γ'.length = true := by rfl) : SW Γ (sq (sSet i (asO eo)) s2) r P := fun ρ hs => by
  obtain ⟨ρ', e1, hs'⟩ := ew_val h hs
  have e2 : sSet i (asO eo) ρ = .ok .nx (ρ'.set i (.ow (f a))) := by
    have hl : i < ρ'.length := by rw [hs'.len]; exact blt_lt hi
    simp [e1, hl]
  rw [sq_ok e2]
  exact hn _ (hs'.set (p := .is _) rfl i)
/-- the row of drawn numbers is made -/
theorem sw_row {cs : List Int} {c : Int} (hj : Γ[j]? = some (.is (.fz (.sl (cs.map T.int)))) := by rfl) (h0 : 0 ≤ c := by decide) (h1 : c < 2147483647 := by decide) (hi : Nat.blt i Γ.length = true := by rfl) (hn : SW (Γ.set i (.row false)) s2 r P) :
    SW Γ (sq (sSet i (asO (calO newL (rdCons (rdA j) (rdCons (rdC (.int 0)) (rdCons (rdC (.int c)) (rdCons (rdC (.int 0)) rdNil))))))) s2) r P := fun ρ hs => by
  have e1 : sq (sSet i (asO (calO newL (rdCons (rdA j) (rdCons (rdC (.int 0)) (rdCons (rdC (.int c)) (rdCons (rdC (.int 0)) rdNil))))))) s2 ρ = s2 (ρ.set i (.ow (.l [.sl (cs.map T.int), .int 0, .int c, .int 0]))) := by
    simp [rdA_e, hs.is hj, hs.len, blt_lt hi]
  rw [e1]
  exact hn _ (hs.set (p := .row false) ⟨_, rfl, cs, 0, c, 0, rfl, by decide, h0, h1⟩ i)
/-! several values -/
def xN (_ : Unit) : List VO := []
def xC (f : α → VO) (g : β → List VO) (p : α × β) : List VO := f p.1 :: g p.2
def vT (f : α → T) (a : α) : VO := .tr (f a)
def vO (f : α → O) (a : α) : VO := .ob (f a)
theorem ew_xnil {k : Unit → R γ} : EW Γ xsNil (k ()) k xN Γ := ew_pure fun ρ hs => rfl
theorem ew_xcons {α1 α2 : Type} {ev : M VO} {es : M (List VO)} {f1 : α1 → VO} {f2 : α2 → List VO} {k1 : α1 → R γ} {k : α1 × α2 → R γ} (h1 : EW Γ ev r k1 f1 Γ') (h2 : ∀ a, EW Γ' es (k1 a) (fun b => k (a, b)) f2 Γ'') : EW Γ (xsCons ev es) r k (xC f1 f2) Γ'' := by
  refine ew_bind h1 fun a => ew_bind (h2 a) fun b => ?_
  exact ew_pure (a := (a, b)) fun ρ hs => rfl
theorem ew_asT (h : EW Γ e r k f Γ') : EW Γ (asT e) r k (vT f) Γ' := ew_bind h fun a => ew_pure (a := a) fun ρ hs => rfl
theorem ew_asO {eo : M O} {f : α → O} (h : EW Γ eo r k f Γ') : EW Γ (asO eo) r k (vO f) Γ' := ew_bind h fun a => ew_pure (a := a) fun ρ hs => rfl
theorem sw_par {α1 α2 : Type} {es : M (List VO)} {f1 : α1 → VO} {f2 : α2 → VO} {k : α1 → α2 → R γ} (h : EW Γ es r (fun p => k p.1 p.2.1) (xC f1 (xC f2 xN)) Γ') (hn : ∀ a b, SW ((Γ'.set i (.is (f1 a).sv)).set j (.is (f2 b).sv)) s2 (k a b) P) (hi : Nat.blt i Γ'.length = true := by rfl) (hj : Nat.blt j Γ'.length = true := by rfl) : SW Γ (sq (sPar i j es) s2) r P := fun ρ hs => by
  have e1 : sq (sPar i j es) s2 ρ = (es ρ).bind fun xs ρ => (put2 i j xs ρ).bind fun fl ρ => match fl with
    | .nx => s2 ρ
    | .rt t => .ok (.rt t) ρ
    | .bk => .ok .bk ρ
    | .ct => .ok .ct ρ := by
    unfold sq sPar
    cases es ρ <;> rfl
  rw [e1]
  refine h Fl P _ (fun a ρ' hs' => ?_) ρ hs
  obtain ⟨a, b, u⟩ := a
  show Good P ((if i < ρ'.length ∧ j < ρ'.length then Res.ok Fl.nx ((ρ'.set i (f1 a).sv).set j (f2 b).sv) else .bad).bind _) _
  rw [if_pos ⟨by rw [hs'.len]; exact blt_lt hi, by rw [hs'.len]; exact blt_lt hj⟩]
  exact hn a b _ ((hs'.set (p := .is _) rfl i).set (p := .is _) rfl j)
theorem sw_parp {α1 α2 : Type} {es : M (List VO)} {f1 : α1 → VO} {f2 : α2 → VO} (a : α1) (b : α2) (h : ∀ {γ : Type} (k : α1 × α2 × Unit → R γ), EW Γ es (k (a, b, ())) k (xC f1 (xC f2 xN)) Γ') (hn : SW ((Γ'.set i (.is (f1 a).sv)).set j (.is (f2 b).sv)) s2 r P) (hi : Nat.blt i Γ'.length = true := by rfl) (hj : Nat.blt j Γ'.length = true := by rfl) : SW Γ (sq (sPar i j es) s2) r P := fun ρ hs => by
  obtain ⟨ρ', e1, hs'⟩ := ew_val h hs
  have e2 : sPar i j es ρ = .ok .nx ((ρ'.set i (f1 a).sv).set j (f2 b).sv) := by
    have hl : i < ρ'.length := by rw [hs'.len]; exact blt_lt hi
    have hl2 : j < ρ'.length := by rw [hs'.len]; exact blt_lt hj
    simp [e1, xC, xN, hl, hl2]
  rw [sq_ok e2]
  exact hn _ ((hs'.set (p := .is _) rfl i).set (p := .is _) rfl j)
/-! targets -/
theorem gw_n {t : T} (hi : Nat.blt i Γ.length = true := by rfl) : GW Γ (gN i) t (Γ.set i (.is (.fz t))) := fun ρ hs => by
  refine ⟨ρ.set i (.fz t), ?_, hs.set (p := .is _) rfl i⟩
  unfold gN
  rw [if_pos (by rw [hs.len]; exact blt_lt hi)]
theorem gs_nil : GsW Γ gsNil [] Γ := fun ρ hs => ⟨ρ, rfl, hs⟩
theorem gs_cons {g : MG} {gs : MGs} {t : T} {ts : List T} (h1 : GW Γ g t Γ') (h2 : GsW Γ' gs ts Γ'') : GsW Γ (gsCons g gs) (t :: ts) Γ'' := fun ρ hs => by
  obtain ⟨ρ1, e1, hs1⟩ := h1 ρ hs
  obtain ⟨ρ2, e2, hs2⟩ := h2 ρ1 hs1
  refine ⟨ρ2, ?_, hs2⟩
  unfold gsCons
  simp only [e1, Option.bind_some, e2]
theorem gw_t {gs : MGs} {ts : List T} (h : GsW Γ gs ts Γ') : GW Γ (gT gs) (.tup ts) Γ' := fun ρ hs => by
  obtain ⟨ρ', e, hs'⟩ := h ρ hs
  exact ⟨ρ', e, hs'⟩
theorem sw_asg {g : MG} {Γ2 : α → Ctx} (h : EW Γ e r k f Γ') (hg : ∀ a, GW Γ' g (f a) (Γ2 a)) (hn : ∀ a, SW (Γ2 a) s2 (k a) P) : SW Γ (sq (sAsg g e) s2) r P := fun ρ hs => by
  have e1 : sq (sAsg g e) s2 ρ = (e ρ).bind fun t ρ => match g t ρ with
    | some ρ => s2 ρ
    | none => .bad := by
    unfold sq sAsg
    cases e ρ with
    | bad => rfl
    | exc e => rfl
    | ok t ρ' =>
      show (Res.bind (match g t ρ' with | some ρ => Res.ok Fl.nx ρ | none => .bad) _) = _
      simp only [bind_ok]
      cases g t ρ' <;> rfl
  rw [e1]
  refine h Fl P _ (fun a ρ' hs' => ?_) ρ hs
  obtain ⟨ρ2, e2, hs2⟩ := hg a ρ' hs'
  rw [e2]
  exact hn a ρ2 hs2
theorem sw_asgp {g : MG} {Γ2 : Ctx} (a : α) (h : ∀ {γ : Type} (k : α → R γ), EW Γ e (k a) k f Γ') (hg : GW Γ' g (f a) Γ2) (hn : SW Γ2 s2 r P) : SW Γ (sq (sAsg g e) s2) r P := fun ρ hs => by
  obtain ⟨ρ', e1, hs'⟩ := ew_val h hs
  obtain ⟨ρ2, e2, hs2⟩ := hg ρ' hs'
  have e3 : sAsg g e ρ = .ok .nx ρ2 := by simp [e1, e2]
  rw [sq_ok e3]
  exact hn ρ2 hs2
/-! expressions as statements; lists changed -/
theorem sw_expr (h : EW Γ e r k f Γ') (hn : ∀ a, SW Γ' s2 (k a) P) : SW Γ (sq (sExpr e) s2) r P := fun ρ hs => by
  have e1 : sq (sExpr e) s2 ρ = (e ρ).bind fun t ρ => s2 ρ := by
    unfold sq sExpr
    cases e ρ <;> rfl
  rw [e1]
  exact h Fl P _ (fun a ρ' hs' => hn a ρ' hs') ρ hs
@[irreducible] def appR (xs : List α) (a : α) : R (List α) := if xs.length < 16777216 then .ok (xs ++ [a]) else .bad
theorem sw_app {xs : List α} {k : List α → R γ} {f : α → T} (h0 : Γ[i]? = some (.is (.ow (.l (xs.map f)))) := by rfl) (h : EW Γ e r (fun a => (appR xs a).bind k) f Γ') (h1 : Γ'[i]? = some (.is (.ow (.l (xs.map f)))) := by rfl) (hn : ∀ ys : List α, SW (Γ'.set i (.is (.ow (.l (ys.map f))))) s2 (k ys) P) :
    SW Γ (sq (sExpr (apnM i e)) s2) r P := fun ρ hs => by
  have e1 : sq (sExpr (apnM i e)) s2 ρ = (e ρ).bind fun y ρ => match rdOwn i ρ with
    | some (.l ts) => if ts.length < 16777216 then s2 (setOwn i (.l (ts ++ [y])) ρ) else .bad
    | _ => .bad := by
    unfold sq sExpr apnM withL
    have : rdOwn i ρ = some (.l (xs.map f)) := by unfold rdOwn; rw [hs.is h0]; rfl
    rw [this]
    simp only [isL_l, if_true]
    cases e ρ with
    | bad => rfl
    | exc e => rfl
    | ok t ρ' =>
      simp only [bind_ok]
      cases rdOwn i ρ' with
      | none => rfl
      | some o =>
        cases o with
        | l ts => simp only; split <;> rfl
        | dk _ _ => rfl
        | dt _ _ => rfl
        | db _ _ => rfl
  rw [e1]
  refine h Fl P _ (fun a ρ' hs' => ?_) ρ hs
  have e2 : rdOwn i ρ' = some (.l (xs.map f)) := by unfold rdOwn; rw [hs'.is h1]; rfl
  rw [e2]
  simp only [List.length_map]
  unfold appR
  by_cases hl : xs.length < 16777216
  · rw [if_pos hl, if_pos hl]
    refine good_ok (hn (xs ++ [a]) _ ?_)
    have e3 : setOwn i (.l (xs.map f ++ [f a])) ρ' = ρ'.set i (.ow (.l ((xs ++ [a]).map f))) := by
      unfold setOwn; rw [hs'.is h1]; simp [SV.to]
    rw [e3]
    exact hs'.set (p := .is _) rfl i
  · rw [if_neg hl, if_neg hl]; rw [R.bind_bad]; trivial
def eI (i : Int) : T := .int i
end
end FL.NL

/-! NL3: ifs, loops, comprehensions, defs. -/
namespace FL.NL
open PySem
variable {α β γ δ σ : Type}
section
variable {Γ Γ' Γ'' Γ3 : Ctx} {e e1 e2 e3 : M T} {r ra rb : R γ} {f : α → T} {k : α → R γ} {s s1 s2 sa sb : MS} {P : γ → Res Fl → Prop} {i j : Nat} {c : M Bool}
theorem sq_nx {ρ ρ' : Env} (h : s ρ = .ok .nx ρ') : sq s s2 ρ = s2 ρ' := by unfold sq; rw [h]; rfl
theorem sq_exc {ρ : Env} {e : Ex} (h : s ρ = .exc e) : sq s s2 ρ = .exc e := by unfold sq; rw [h]; rfl
theorem sq_rt {ρ ρ' : Env} {t : T} (h : s ρ = .ok (.rt t) ρ') : sq s s2 ρ = s ρ := by unfold sq; rw [h]; rfl
/-! ### if -/
theorem sq_if : sq (sIf c sa sb) s2 = sIf c (sq sa s2) (sq sb s2) := by
  funext ρ
  unfold sq sIf
  rw [res_bind_assoc]
  congr 1
  funext b ρ'
  cases b <;> rfl
theorem sw_if (hc : EW Γ c r (fun b => if b = true then ra else rb) idB Γ') (ha : SW Γ' (sq sa s2) ra P) (hb : SW Γ' (sq sb s2) rb P) : SW Γ (sq (sIf c sa sb) s2) r P := fun ρ hs => by
  rw [sq_if]
  unfold sIf
  refine hc Fl P _ (fun b ρ' hs' => ?_) ρ hs
  cases b with
  | true => exact ha ρ' hs'
  | false => exact hb ρ' hs'
/-- both ways go on -/
theorem sw_ifj {Δ : σ → Ctx} {ra rb : R σ} {k : σ → R γ} (hc : EW Γ c r (fun b => (if b = true then ra else rb).bind k) idB Γ') (ha : SW Γ' sa ra (PN Δ)) (hb : SW Γ' sb rb (PN Δ)) (hn : ∀ v, SW (Δ v) s2 (k v) P) : SW Γ (sq (sIf c sa sb) s2) r P := fun ρ hs => by
  have hj : ∀ (st : MS) (rr : R σ), SW Γ' st rr (PN Δ) → ∀ ρ', St ρ' Γ' → Good P (sq st s2 ρ') (rr.bind k) := fun st rr h ρ' hs' => by
    refine (h ρ' hs').next (fun e he => sq_exc he) fun v ⟨ρ2, e2, hs2⟩ => ?_
    have : sq st s2 ρ' = s2 ρ2 := by unfold sq; rw [e2]; rfl
    rw [this]
    exact hn v ρ2 hs2
  rw [sq_if]
  unfold sIf
  refine hc Fl P _ (fun b ρ' hs' => ?_) ρ hs
  cases b with
  | true => exact hj sa ra ha ρ' hs'
  | false => exact hj sb rb hb ρ' hs'
/-! ### for -/
def forR (xs : List α) (body : α → σ → R σ) (s0 : σ) : R σ := match xs with
  | [] => .ok s0
  | x :: xs => (body x s0).bind fun s1 => forR xs body s1
def forC (xs : List α) (body : α → σ → R (Ct σ β)) (s0 : σ) : R (Lp σ β) := match xs with
  | [] => .ok (.nx s0)
  | x :: xs => (body x s0).bind fun c => match c with
    | .nx s1 => forC xs body s1
    | .bk s1 => .ok (.nx s1)
    | .rt b => .ok (.rt b)
theorem forR_good {fx : α → T} {g : MG} {b : MS} {body : α → σ → R σ} {Δ : σ → Ctx} {Γ1 : α → σ → Ctx} (ht : ∀ x v, GW (Δ v) g (fx x) (Γ1 x v)) (hb : ∀ x v, SW (Γ1 x v) b (body x v) (PL Δ)) :
    ∀ (xs : List α) (v : σ) (ρ : Env), St ρ (Δ v) → Good (fun v x => ∃ ρ, x = Res.ok Fl.nx ρ ∧ St ρ (Δ v)) (forL g b (xs.map fx) ρ) (forR xs body v)
  | [], v, ρ, hs => ⟨ρ, rfl, hs⟩
  | x :: xs, v, ρ, hs => by
    obtain ⟨ρ1, e1, hs1⟩ := ht x v ρ hs
    have e2 : forL g b ((x :: xs).map fx) ρ = (b ρ1).bind fun fl ρ => match fl with
      | .nx => forL g b (xs.map fx) ρ
      | .ct => forL g b (xs.map fx) ρ
      | .bk => .ok .nx ρ
      | .rt t => .ok (.rt t) ρ := by
      show (match g (fx x) ρ with | none => _ | some ρ => _) = _
      rw [e1] <;> rfl
    rw [e2]
    refine (hb x v ρ1 hs1).next (fun e he => by rw [he]; rfl) fun v2 ⟨ρ2, hx, hs2⟩ => ?_
    have := forR_good ht hb xs v2 ρ2 hs2
    rcases hx with hx | hx <;> (rw [hx]; exact this)
theorem sw_for {fx : α → T} {g : MG} {b : MS} {src : M (List T)} {body : α → σ → R σ} {Δ : σ → Ctx} {Γ1 : α → σ → Ctx} {k : σ → R γ} (v0 : σ)
    (hsrc : EW Γ src r (fun xs => (forR xs body v0).bind k) (List.map fx) Γ') (l : Le Γ' (Δ v0)) (ht : ∀ x v, GW (Δ v) g (fx x) (Γ1 x v)) (hb : ∀ x v, SW (Γ1 x v) b (body x v) (PL Δ)) (hn : ∀ v, SW (Δ v) s2 (k v) P) : SW Γ (sq (sFor src g b) s2) r P := fun ρ hs => by
  have e1 : sq (sFor src g b) s2 ρ = (src ρ).bind fun ts ρ => sq (fun ρ => forL g b ts ρ) s2 ρ := by
    unfold sq sFor
    rw [res_bind_assoc]
  rw [e1]
  refine hsrc Fl P _ (fun xs ρ' hs' => ?_) ρ hs
  refine (forR_good ht hb xs v0 ρ' (hs'.le l)).next (fun e he => sq_exc he) fun v ⟨ρ2, hx, hs2⟩ => ?_
  rw [sq_nx (s := fun ρ => forL g b (xs.map fx) ρ) hx]
  exact hn v ρ2 hs2
theorem forC_good {fx : α → T} {g : MG} {b : MS} {body : α → σ → R (Ct σ β)} {Δ : σ → Ctx} {Γ1 : α → σ → Ctx} {Pr : β → Res Fl → Prop} (ht : ∀ x v, GW (Δ v) g (fx x) (Γ1 x v)) (hb : ∀ x v, SW (Γ1 x v) b (body x v) (PC Pr Δ)) :
    ∀ (xs : List α) (v : σ) (ρ : Env), St ρ (Δ v) → Good (fun (v : Lp σ β) x => match v with
      | .nx v => ∃ ρ, x = Res.ok Fl.nx ρ ∧ St ρ (Δ v)
      | .rt b => (∃ t ρ, x = .ok (.rt t) ρ) ∧ Pr b x) (forL g b (xs.map fx) ρ) (forC xs body v)
  | [], v, ρ, hs => ⟨ρ, rfl, hs⟩
  | x :: xs, v, ρ, hs => by
    obtain ⟨ρ1, e1, hs1⟩ := ht x v ρ hs
    have e2 : forL g b ((x :: xs).map fx) ρ = (b ρ1).bind fun fl ρ => match fl with
      | .nx => forL g b (xs.map fx) ρ
      | .ct => forL g b (xs.map fx) ρ
      | .bk => .ok .nx ρ
      | .rt t => .ok (.rt t) ρ := by
      show (match g (fx x) ρ with | none => _ | some ρ => _) = _
      rw [e1] <;> rfl
    rw [e2]
    refine (hb x v ρ1 hs1).next (fun e he => by rw [he]; rfl) fun c hc => ?_
    cases c with
    | nx v2 =>
      obtain ⟨ρ2, hx, hs2⟩ := hc
      have := forC_good ht hb xs v2 ρ2 hs2
      rcases hx with hx | hx <;> (rw [hx]; exact this)
    | bk v2 =>
      obtain ⟨ρ2, hx, hs2⟩ := hc
      rw [hx]; exact ⟨ρ2, rfl, hs2⟩
    | rt bb =>
      obtain ⟨⟨t, ρ2, hx⟩, hp⟩ := hc
      rw [hx] at hp ⊢; exact ⟨⟨t, ρ2, rfl⟩, hp⟩
/-- a loop that may return: h tells how the outer end is met -/
theorem sw_forC {fx : α → T} {g : MG} {b : MS} {src : M (List T)} {body : α → σ → R (Ct σ β)} {Δ : σ → Ctx} {Γ1 : α → σ → Ctx} {Pr : β → Res Fl → Prop} {k : Lp σ β → R γ} (v0 : σ)
    (hsrc : EW Γ src r (fun xs => (forC xs body v0).bind k) (List.map fx) Γ') (l : Le Γ' (Δ v0)) (ht : ∀ x v, GW (Δ v) g (fx x) (Γ1 x v)) (hb : ∀ x v, SW (Γ1 x v) b (body x v) (PC Pr Δ))
    (hn : ∀ v, SW (Δ v) s2 (k (.nx v)) P) (hr : ∀ b x, (∃ t ρ, x = .ok (.rt t) ρ) → Pr b x → Good P x (k (.rt b))) : SW Γ (sq (sFor src g b) s2) r P := fun ρ hs => by
  have e1 : sq (sFor src g b) s2 ρ = (src ρ).bind fun ts ρ => sq (fun ρ => forL g b ts ρ) s2 ρ := by
    unfold sq sFor
    rw [res_bind_assoc]
  rw [e1]
  refine hsrc Fl P _ (fun xs ρ' hs' => ?_) ρ hs
  refine (forC_good ht hb xs v0 ρ' (hs'.le l)).next (fun e he => sq_exc he) fun v hv => ?_
  cases v with
  | nx v =>
    obtain ⟨ρ2, hx, hs2⟩ := hv
    rw [sq_nx (s := fun ρ => forL g b (xs.map fx) ρ) hx]
    exact hn v ρ2 hs2
  | rt bb =>
    obtain ⟨⟨t, ρ2, hx⟩, hp⟩ := hv
    rw [sq_rt (s := fun ρ => forL g b (xs.map fx) ρ) hx]
    exact hr bb _ ⟨t, ρ2, hx⟩ hp
/-- the outer end is a def's -/
theorem rt_F {f : α → T} (b : α) (x : Res Fl) (_ : ∃ t ρ, x = .ok (.rt t) ρ) (h : PF f b x) : Good (PF f) x (.ok b) := h
theorem rt_C {Pr : β → Res Fl → Prop} {Δ : σ → Ctx} (b : β) (x : Res Fl) (h0 : ∃ t ρ, x = .ok (.rt t) ρ) (h : Pr b x) : Good (PC Pr Δ) x (.ok (.rt b)) := ⟨h0, h⟩
/-! ### while -/
def whileR (n : Nat) (c : σ → R Bool) (body : σ → R σ) (v : σ) : R σ := match n with
  | 0 => .bad
  | n + 1 => (c v).bind fun b => if b = true then (body v).bind fun v => whileR n c body v else .ok v
theorem whileR_good {b : MS} {cr : σ → R Bool} {body : σ → R σ} {Δ : σ → Ctx} (hc : ∀ v, EV (Δ v) c (cr v) idB (Δ v)) (hb : ∀ v, SW (Δ v) b (body v) (PL Δ)) :
    ∀ (n : Nat) (v : σ) (ρ : Env), St ρ (Δ v) → Good (fun v x => ∃ ρ, x = Res.ok Fl.nx ρ ∧ St ρ (Δ v)) (whl c b n ρ) (whileR n cr body v)
  | 0, v, ρ, hs => trivial
  | n + 1, v, ρ, hs => by
    rw [whl_succ]
    refine ew_own (hc v) Fl _ _ (fun x ρ1 hs1 => ?_) ρ hs
    cases x with
    | false => exact ⟨ρ1, rfl, hs1⟩
    | true =>
      refine (hb v ρ1 hs1).next (fun e he => by show (if true = true then _ else _) = _; rw [if_pos rfl, he]; rfl) fun v2 ⟨ρ2, hx, hs2⟩ => ?_
      have := whileR_good hc hb n v2 ρ2 hs2
      show Good _ (if true = true then _ else _) _
      rw [if_pos rfl]
      rcases hx with hx | hx <;> (rw [hx]; exact this)
theorem sw_while {b : MS} {n : Nat} {cr : σ → R Bool} {body : σ → R σ} {Δ : σ → Ctx} {k : σ → R γ} (v0 : σ) (l : Le Γ (Δ v0)) (hc : ∀ v, EV (Δ v) c (cr v) idB (Δ v)) (hb : ∀ v, SW (Δ v) b (body v) (PL Δ)) (hn : ∀ v, SW (Δ v) s2 (k v) P) :
    SW Γ (sq (whl c b n) s2) ((whileR n cr body v0).bind k) P := fun ρ hs => by
  refine (whileR_good hc hb n v0 ρ (hs.le l)).next (fun e he => sq_exc he) fun v ⟨ρ2, hx, hs2⟩ => ?_
  rw [sq_nx hx]
  exact hn v ρ2 hs2
/-! ### comprehensions -/
def freeC (Γ : Ctx) (vs : List Nat) : Bool := vs.all fun v => match Γ[v]? with
  | some (.is .un) => true
  | some (.is (.fz _)) => true
  | some .nf => true
  | _ => false
def wipeC (Γ : Ctx) : List Nat → Ctx
  | [] => Γ
  | v :: vs => (wipeC Γ vs).set v (.is .un)
def setAll (Γ : Ctx) (l : List (Nat × Sp)) : Ctx := match l with
  | [] => Γ
  | (i, p) :: l => setAll (Γ.set i p) l
theorem setAll_len : ∀ {l : List (Nat × Sp)} {Γ : Ctx}, (setAll Γ l).length = Γ.length
  | [], _ => rfl
  | (i, p) :: l, Γ => by unfold setAll; rw [setAll_len, List.length_set]
theorem setAll_get : ∀ {l : List (Nat × Sp)} {Γ : Ctx} {i : Nat}, (l.all fun q => decide (q.1 ≠ i)) = true → (setAll Γ l)[i]? = Γ[i]?
  | [], _, _, _ => rfl
  | (j, p) :: l, Γ, i, h => by
    simp only [List.all_cons, Bool.and_eq_true, decide_eq_true_eq] at h
    unfold setAll
    rw [setAll_get h.2, List.getElem?_set_ne h.1]
theorem St.free {ρ : Env} {vs : List Nat} (h : St ρ Γ) (hf : freeC Γ vs = true) : freeS ρ vs = true := by
  unfold freeC at hf
  unfold freeS
  rw [List.all_eq_true] at hf ⊢
  intro v hv
  have := hf v hv
  split at this
  · rename_i e; rw [h.is e]
  · rename_i e; rw [h.is e]
  · rename_i e
    obtain ⟨x, ex, hx⟩ := h.get _ _ e
    rw [ex]
    have hx : nfz x = true := hx
    cases x <;> first | rfl | cases hx
  · cases this
theorem St.wipe {ρ : Env} (h : St ρ Γ) : ∀ vs : List Nat, St (wipeE ρ vs) (wipeC Γ vs)
  | [] => h
  | v :: vs => (h.wipe vs).set (p := .is .un) rfl v
theorem St.bring {ρ0 ρ : Env} {vs : List Nat} {l : List (Nat × Sp)} (h0 : St ρ0 Γ) (h : St ρ (setAll Γ l)) (hv : (l.all fun q => vs.contains q.1) = true) : St (bring ρ0 ρ vs) Γ := by
  have hl : ρ.length = Γ.length := by rw [h.len, setAll_len]
  refine ⟨by rw [bring_length, hl], fun i p e => ?_⟩
  have hlt : i < Γ.length := (List.getElem?_eq_some_iff.mp e).1
  by_cases hi : i ∈ vs
  · obtain ⟨x, ex, hx⟩ := h0.get i p e
    refine ⟨x, ?_, hx⟩
    rw [bring_get.2 hi (by omega), List.getD_eq_getElem?_getD, ex]; rfl
  · have hn : (l.all fun q => decide (q.1 ≠ i)) = true := by
      rw [List.all_eq_true] at hv ⊢
      intro q hq
      have := hv q hq
      rw [decide_eq_true_eq]
      intro e; subst e
      exact hi (by simpa using this)
    rw [← setAll_get (Γ := Γ) hn] at e
    obtain ⟨x, ex, hx⟩ := h.get i p e
    exact ⟨x, by rw [bring_get.1 hi]; exact ex, hx⟩
def cmpGo (p : α → R Bool) (e : α → R β) : List α → R (List β)
  | [] => .ok []
  | x :: xs => (p x).noX.bind fun b => if b = true then (e x).noX.bind fun y => (cmpGo p e xs).bind fun ys => .ok (y :: ys) else cmpGo p e xs
@[irreducible] def cmpR (xs : List α) (p : α → R Bool) (e : α → R β) : R (List β) := if xs.length ≤ 16777216 then cmpGo p e xs else .bad
def oL (f : α → T) (xs : List α) : O := .l (xs.map f)
section
variable {vs : List Nat} {g : MG} {test : M Bool} {elt : M T} {fx : α → T} {fe : β → T} {sl : α → List (Nat × Sp)} {src : M (List T)}
theorem noX_of {δ : Type} {x : Res δ} {e : Ex} (h : FL.noX x = .exc e) : False := by cases x <;> cases h
theorem EV.nx {δ : Type} {e : M δ} {r : R α} {f : α → δ} (h : EV Γ e r f Γ') {ρ : Env} (hs : St ρ Γ) : Good (fun a x => ∃ ρ', x = .ok (f a) ρ' ∧ St ρ' Γ') (FL.noX (e ρ)) r.noX := by
  have h1 := h (β := δ) (P := fun a x => ∃ ρ', x = .ok (f a) ρ' ∧ St ρ' Γ') (fun y ρ => .ok y ρ) (fun a ρ' hs' => ⟨ρ', rfl, hs'⟩) ρ hs
  have e2 : ((e ρ).bind fun y ρ => Res.ok y ρ) = e ρ := by cases e ρ <;> rfl
  rw [e2] at h1
  have : ∀ rr : R α, Good (fun a x => ∃ ρ', x = .ok (f a) ρ' ∧ St ρ' Γ') (e ρ) rr → Good (fun a x => ∃ ρ', x = .ok (f a) ρ' ∧ St ρ' Γ') (FL.noX (e ρ)) rr.noX := fun rr => by
    induction rr with
    | bad => exact fun _ => trivial
    | exc e => exact fun _ => trivial
    | ok a => exact fun ⟨ρ', e, hs⟩ => ⟨ρ', by rw [e]; rfl, hs⟩
    | dr m f ih => exact fun h h0 h1 => let ⟨v, a, b, c⟩ := h h0 h1; ⟨v, a, b, ih v c⟩
  exact this r h1
theorem cmp_good {p : α → R Bool} {e : α → R β} (ht : ∀ x, GW (wipeC Γ vs) g (fx x) (setAll Γ (sl x))) (hv : ∀ x, ((sl x).all fun q => vs.contains q.1) = true) (hp : ∀ x, EV (setAll Γ (sl x)) test (p x) idB (setAll Γ (sl x))) (he : ∀ x, EV (setAll Γ (sl x)) elt (e x) fe (setAll Γ (sl x))) :
    ∀ (xs : List α) (acc : List T) (ρ : Env), acc.length + xs.length ≤ 16777216 → St ρ Γ → Good (fun (ys : List β) x => ∃ ρ', x = .ok (acc ++ ys.map fe) ρ' ∧ St ρ' Γ) (lcL vs g test elt (xs.map fx) acc ρ) (cmpGo p e xs)
  | [], acc, ρ, _, hs => ⟨ρ, by simp [lcL], hs⟩
  | x :: xs, acc, ρ, hl, hs => by
    obtain ⟨ρ1, e1, hs1⟩ := ht x _ (hs.wipe vs)
    show Good _ (match g (fx x) (wipeE ρ vs) with | none => _ | some ρ1 => _) _
    rw [e1]
    simp only [List.length_cons] at hl
    refine ((hp x).nx hs1).next (fun e he => (noX_of he).elim) fun b ⟨ρ2, e2, hs2⟩ => ?_
    simp only [e2, bind_ok]
    cases b with
    | false =>
      show Good _ (if false = true then _ else _) (if false = true then _ else _)
      rw [if_neg (by decide), if_neg (by decide)]
      exact cmp_good ht hv hp he xs acc _ (by omega) (hs.bring hs2 (hv x))
    | true =>
      show Good _ (if true = true then _ else _) (if true = true then _ else _)
      rw [if_pos rfl, if_pos rfl]
      refine ((he x).nx hs2).next (fun e he => (noX_of he).elim) fun y ⟨ρ3, e3, hs3⟩ => ?_
      simp only [e3, bind_ok]
      rw [if_pos (by omega)]
      have := cmp_good ht hv hp he xs (acc ++ [fe y]) _ (by simp; omega) (hs.bring hs3 (hv x))
      refine this.next (fun e he => he) fun ys ⟨ρ4, e4, hs4⟩ => ?_
      exact ⟨ρ4, by rw [e4]; simp, hs4⟩
theorem ew_lc {p : α → R Bool} {e : α → R β} {k : List β → R γ} (hsrc : EW Γ src r (fun xs => (cmpR xs p e).bind k) (List.map fx) Γ') (hf : freeC Γ' vs = true) (ht : ∀ x, GW (wipeC Γ' vs) g (fx x) (setAll Γ' (sl x))) (hv : ∀ x, ((sl x).all fun q => vs.contains q.1) = true)
    (hp : ∀ x, EV (setAll Γ' (sl x)) test (p x) idB (setAll Γ' (sl x))) (he : ∀ x, EV (setAll Γ' (sl x)) elt (e x) fe (setAll Γ' (sl x))) : EW Γ (lcM vs src g test elt) r k (oL fe) Γ' := fun β' P K hk ρ hs => by
  unfold lcM
  rw [res_bind_assoc]
  refine hsrc β' P _ (fun xs ρ1 hs1 => ?_) ρ hs
  rw [if_pos (hs1.free hf), res_bind_assoc]
  show Good P _ ((cmpR xs p e).bind k)
  unfold cmpR
  by_cases hl : xs.length ≤ 16777216
  · rw [if_pos hl]
    refine (cmp_good ht hv hp he xs [] ρ1 (by simpa using hl) hs1).next (fun e he => by rw [he]; rfl) fun ys ⟨ρ2, e2, hs2⟩ => ?_
    rw [e2]
    exact hk ys ρ2 hs2
  · rw [if_neg hl]; rw [R.bind_bad]; trivial
theorem ew_lcX {e : α → R β} {k : List β → R γ} (hsrc : EW Γ src r (fun xs => (cmpR xs (fun _ => .ok true) e).bind k) (List.map fx) Γ') (hf : freeC Γ' vs = true) (ht : ∀ x, GW (wipeC Γ' vs) g (fx x) (setAll Γ' (sl x))) (hv : ∀ x, ((sl x).all fun q => vs.contains q.1) = true)
    (he : ∀ x, EV (setAll Γ' (sl x)) elt (e x) fe (setAll Γ' (sl x))) : EW Γ (lcM vs src g yes elt) r k (oL fe) Γ' :=
  ew_lc (p := fun x => .ok true) hsrc hf ht hv (fun x => ew_pure (a := true) (f := idB) (k := fun a => R.ok a) fun ρ hs => rfl) he
end
/-! ### two clauses -/
/-! ### defs -/
def ctx0 (n m : Nat) (ts : List T) : Ctx := ts.map (fun t => Sp.is (.fz t)) ++ List.replicate (n - m) (.is .un)
theorem st0 {n m : Nat} {ts : List T} : St (ts.map SV.fz ++ List.replicate (n - m) SV.un) (ctx0 n m ts) := by
  refine ⟨by simp [ctx0], fun i p e => ?_⟩
  unfold ctx0 at e
  by_cases hi : i < ts.length
  · rw [List.getElem?_append_left (by simpa using hi), List.getElem?_map] at e
    obtain ⟨t, et, rfl⟩ := Option.map_eq_some_iff.mp e
    exact ⟨.fz t, by rw [List.getElem?_append_left (by simpa using hi), List.getElem?_map, et]; rfl, rfl⟩
  · rw [List.getElem?_append_right (by simp; omega), List.getElem?_replicate] at e
    simp only [List.length_map] at e
    split at e
    · cases e
      exact ⟨.un, by rw [List.getElem?_append_right (by simp; omega), List.getElem?_replicate]; simp only [List.length_map]; rw [if_pos (by assumption)], rfl⟩
    · cases e
theorem fn_of {n m : Nat} {body : MS} {ts : List T} {r : R α} {f : α → T} (h : SW (ctx0 n m ts) body r (PF f)) (hl : ts.length = m := by rfl) (hm : m ≤ n := by decide) : Fn (fnF n m body) ts r f := by
  refine ⟨?_⟩
  unfold fnF
  rw [if_pos ⟨hl, hm⟩]
  have := h _ (st0 (n := n) (m := m) (ts := ts))
  revert this
  generalize body (ts.map SV.fz ++ List.replicate (n - m) SV.un) = x
  intro this
  have go : ∀ rr : R α, Good (PF f) x rr → Good (fun v x => x = .ok (f v) []) (outF x) rr := fun rr => by
    induction rr with
    | bad => exact fun _ => trivial
    | exc e =>
        intro h
        have h : x = .exc e := h
        subst h; rfl
    | ok a =>
        intro h
        rcases h with ⟨ρ, rfl⟩ | ⟨h1, ρ, rfl⟩
        · exact rfl
        · show outF (.ok .nx ρ) = .ok (f a) []
          rw [h1]; rfl
    | dr m f ih => exact fun h h0 h1 => let ⟨v, a, b, c⟩ := h h0 h1; ⟨v, a, b, ih v c⟩
  exact go r this
def ctxM (n m : Nat) (ts : List T) : Ctx := .row true :: (ts.map (fun t => Sp.is (.fz t)) ++ List.replicate (n - m) (.is .un))
theorem fm_of {n m : Nat} {body : MS} {ts : List T} {r : R α} {f : α → T} (h : SW (ctxM n m ts) body r (PM f)) (hl : ts.length + 1 = m := by rfl) (hm : m ≤ n := by decide) : FnM (fnM n m body) ts r f := fun o ho => by
  unfold fnM
  rw [if_pos ⟨hl, hm⟩]
  have hs : St (SV.pa o :: (ts.map SV.fz ++ List.replicate (n - m) SV.un)) (ctxM n m ts) := by
    have h0 := st0 (n := n) (m := m) (ts := ts)
    refine ⟨by simp [ctxM], fun i p e => ?_⟩
    cases i with
    | zero => cases e; exact ⟨_, rfl, o, rfl, ho⟩
    | succ i => exact h0.get i p e
  have := h _ hs
  revert this
  generalize body (SV.pa o :: (ts.map SV.fz ++ List.replicate (n - m) SV.un)) = x
  intro this
  have go : ∀ rr : R α, Good (PM f) x rr → Good (fun v x => ∃ o' ρ, RowOk o' ∧ x = .ok (f v, o') ρ) (outM x) rr.noX := fun rr => by
    induction rr with
    | bad => exact fun _ => trivial
    | exc e => exact fun _ => trivial
    | ok a =>
        intro h
        obtain ⟨ρ, o', hlt, ho', h⟩ := h
        rcases h with rfl | ⟨h1, rfl⟩
        · refine ⟨o', [], ho', ?_⟩
          show outV (f a) ρ = _
          unfold outV; rw [hlt]
        · refine ⟨o', [], ho', ?_⟩
          show outV .non ρ = _
          unfold outV; rw [hlt, h1]
    | dr m f ih => exact fun h h0 h1 => let ⟨v, a, b, c⟩ := h h0 h1; ⟨v, a, b, ih v c⟩
  exact go r this
end
end FL.NL

/-! NL4: encodings; the operators on them. -/
namespace FL.NL
open PySem
variable {α β γ δ σ : Type}
/-! ### encodings -/
def eS (x : Str) : T := .str x
def eU (_ : Unit) : T := .non
def eL (f : α → T) (xs : List α) : T := .lst (xs.map f)
def eT (f : α → T) (xs : List α) : T := .tup (xs.map f)
def eZ (f : α → T) (xs : List α) : T := .sl (xs.map f)
/-- a tuple of parts of their own kinds -/
def eP (f : α → List T) (p : α) : T := .tup (f p)
def eO (f : α → T) (o : Option α) : T := match o with
  | none => .non
  | some a => f a
/-! ### numbers -/
section
variable {a b : Int} {p q : Bool}
theorem add_I (a b : Int) : addO (eI a) (eI b) = some (eI (a + b)) := rfl
theorem sub_I (a b : Int) : subA (eI a) (eI b) = some (eI (a - b)) := rfl
theorem gt_I (a b : Int) : gtO (eI a) (eI b) = some (eB (decide (a > b))) := rfl
theorem le_Ib (a b : Int) : leO (eI a) (eI b) = some (.bl (decide (a ≤ b))) := rfl
@[irreducible] def mulR (a b : Int) : R Int := if a.natAbs.log2 + b.natAbs.log2 < 100000000 then .ok (a * b) else .bad
theorem mul_I (a b : Int) : Lo (mulA (eI a) (eI b)) (mulR a b) eI := by
  show Lo (if mulC a b = true then some (T.int (a * b)) else none) _ _
  unfold mulR mulC
  by_cases h : a.natAbs.log2 + b.natAbs.log2 < 100000000
  · rw [if_pos h, if_pos (decide_eq_true h)]; exact rfl
  · rw [if_neg h]; trivial
theorem mulR_ok (ha : a.natAbs < 2 ^ 64) (hb : b.natAbs < 2 ^ 64) : mulR a b = .ok (a * b) := by
  unfold mulR
  rw [if_pos (of_decide_eq_true (mulC_of (m := 64) (n := 64) ha hb (by decide) (by decide) (by decide)))]
theorem mulR_64 (h1 : -18446744073709551616 < a) (h2 : a < 18446744073709551616) (h3 : -18446744073709551616 < b) (h4 : b < 18446744073709551616) : mulR a b = .ok (a * b) := mulR_ok (by omega) (by omega)
@[irreducible] def divR (a b : Int) : R Int := if divC2 a b = true then .ok (a.fdiv b) else .bad
theorem div_I (a b : Int) : Lo (divA (eI a) (eI b)) (divR a b) eI := by
  show Lo (if divC2 a b = true then some (T.int (a.fdiv b)) else none) _ _
  unfold divR
  by_cases h : divC2 a b = true
  · rw [if_pos h, if_pos h]; exact rfl
  · rw [if_neg h, if_neg h]; trivial
theorem divR_pos (h : 0 < b) (h2 : b < 18446744073709551616) : divR a b = .ok (a / b) := by
  unfold divR divC2
  have h3 : b.natAbs.log2 < 9000 := Nat.lt_of_lt_of_le (PySem.Flt.log2_lt_of (show 0 < 64 by decide) (show b.natAbs < 2 ^ 64 by omega)) (by decide)
  rw [decide_eq_true h, decide_eq_true h3, Int.fdiv_eq_ediv_of_nonneg _ (by omega)]; rfl
@[irreducible] def modR (a b : Int) : R Int := if b ≠ 0 then .ok (a.fmod b) else .bad
theorem mod_I (a b : Int) : Lo (modO (eI a) (eI b)) (modR a b) eI := by
  show Lo (if decide (b ≠ 0) = true then some (T.int (a.fmod b)) else none) _ _
  unfold modR
  by_cases h : b ≠ 0
  · rw [if_pos h, if_pos (decide_eq_true h)]; exact rfl
  · rw [if_neg h]; trivial
theorem modR_pos (h : 0 < b) : modR a b = .ok (a % b) := by
  unfold modR
  rw [if_pos (by omega), Int.fmod_eq_emod_of_nonneg _ (by omega)]
def absI (a : Int) : Int := if a < 0 then -a else a
theorem abs_I (p : Int × Unit) : abs1O (aC eI aN p) = some (eI (absI p.1)) := rfl
/-! ### equality -/
def Eqc [DecidableEq α] (f : α → T) : Prop := ∀ a b, eqT (f a) (f b) = some (decide (a = b))
theorem eq_of [DecidableEq α] {f : α → T} (h : Eqc f) (a b : α) : eqO (f a) (f b) = some (eB (decide (a = b))) := by
  unfold eqO; rw [h a b]; rfl
theorem ne_of' [DecidableEq α] {f : α → T} (h : Eqc f) (a b : α) : neO (f a) (f b) = some (eB (!decide (a = b))) := by
  unfold neO; rw [h a b]; rfl
theorem eqc_I : Eqc eI := fun a b => by
  have := eqO_int (i := a) (j := b)
  unfold eqO at this
  cases h : eqT (eI a) (eI b) with
  | none => unfold eI at h; rw [h] at this; cases this
  | some c => unfold eI at h; rw [h] at this; simp at this; rw [this]
theorem eqc_S : Eqc eS := fun a b => by
  have := eqO_str (z := a) (w := b)
  unfold eqO at this
  cases h : eqT (eS a) (eS b) with
  | none => unfold eS at h; rw [h] at this; cases this
  | some c => unfold eS at h; rw [h] at this; simp at this; rw [this]
/-- of any trees -/
@[irreducible] def eqR (x y : T) : R Bool := match eqT x y with
  | some b => .ok b
  | none => .bad
theorem eq_V (x y : T) : Lo (eqO x y) (eqR x y) eB := by
  unfold eqO eqR
  cases eqT x y with
  | none => trivial
  | some b => exact rfl
@[irreducible] def neR (x y : T) : R Bool := match eqT x y with
  | some b => .ok (!b)
  | none => .bad
theorem ne_V (x y : T) : Lo (neO x y) (neR x y) eB := by
  unfold neO neR
  cases eqT x y with
  | none => trivial
  | some b => exact rfl
/-! ### is None -/
theorem isn_O {f : α → T} (h : ∀ a, isNO true (f a) .non = some (eB true)) (o : Option α) : isNO true (eO f o) .non = some (eB o.isSome) := by
  cases o with
  | none => rfl
  | some a => exact h a
/-! ### rows: +, *, index, len, slices -/
@[irreducible] def catS (x y : Str) : R Str := if x.length + y.length ≤ 16777216 then .ok (x ++ y) else .bad
theorem add_S (x y : Str) : Lo (addO (eS x) (eS y)) (catS x y) eS := by
  show Lo (if x.length + y.length ≤ 16777216 then some (T.str (x ++ y)) else none) _ _
  unfold catS
  by_cases h : x.length + y.length ≤ 16777216
  · rw [if_pos h, if_pos h]; exact rfl
  · rw [if_neg h, if_neg h]; trivial
def atR (xs : List α) (i : Int) : R α := match (idx xs.length i).bind fun j => xs[j]? with
  | some a => .ok a
  | none => .bad
theorem atR_pos {xs : List α} {i : Int} {a : α} (h0 : 0 ≤ i) (h : xs[i.toNat]? = some a) : atR xs i = .ok a := by
  have hl := (List.getElem?_eq_some_iff.mp h).1
  unfold atR idx
  rw [if_pos h0, if_pos (by omega)]
  simp [h]
/-! len -/
@[irreducible] def lenS (z : Str) : R Int := if z.length ≤ 16777216 then .ok z.length else .bad
theorem len_S (p : Str × Unit) : Lo (lenO (aC eS aN p)) (lenS p.1) eI := by
  show Lo (if p.1.length ≤ 16777216 then some (T.int p.1.length) else none) _ _
  unfold lenS
  by_cases h : p.1.length ≤ 16777216
  · rw [if_pos h, if_pos h]; exact rfl
  · rw [if_neg h, if_neg h]; trivial
theorem ew_lenA {γ : Type} {Γ : Ctx} {i : Nat} {t : T} {k : Int → R γ} (a : Int) (hw : lenO [t] = some (eI a)) (h0 : Γ[i]? = some (.is (.fz t)) := by rfl) : EW Γ (lenA i) (k a) k eI Γ := ew_pure fun ρ hs => by
  unfold lenA; rw [has_e, hs.is h0]; simp only [hw, lift_some]
theorem ew_lenS {γ : Type} {Γ : Ctx} {i : Nat} {z : Str} {k : Int → R γ} (h0 : Γ[i]? = some (.is (.fz (eS z))) := by rfl) : EW Γ (lenA i) ((lenS z).bind k) k eI Γ := by
  have : EW Γ (liftO (lenO [eS z])) ((lenS z).bind k) k eI Γ := ew_lift (len_S (z, ()))
  intro β P K hk ρ hs
  have e : lenA i ρ = liftO (lenO [eS z]) ρ := by unfold lenA; rw [has_e, hs.is h0]
  rw [e]; exact this β P K hk ρ hs
/-! slices -/
/-! ### displays, tuple, list, what is walked -/
theorem tup_P {g : α → List T} (h : ∀ p, Nat.ble (g p).length 16777216 = true) (p : α) : tupO (g p) = some (eP g p) := by
  unfold tupO; rw [if_pos (Nat.le_of_ble_eq_true (h p))]; rfl
theorem new_L {g : α → List T} {f : β → T} {w : α → List β} (h : ∀ p, g p = (w p).map f) (h2 : ∀ p, (w p).length ≤ 16777216) (p : α) : newL (g p) = some (oL f (w p)) := by
  have : (g p).length ≤ 16777216 := by rw [h, List.length_map]; exact h2 p
  unfold newL; rw [if_pos this, h]; rfl
theorem ew_frzM {γ : Type} {Γ Γ' : Ctx} {e : M O} {r : R γ} {f : α → T} {k : List α → R γ} (h : EW Γ e r k (oL f) Γ') : EW Γ (frzM e) r k (eL f) Γ' := ew_bind h fun a => ew_pure (a := a) fun ρ hs => rfl
/-! ranges -/
def rg (lo : Int) (n : Nat) : List Int := (List.range n).map fun i => lo + ((i : Nat) : Int)
theorem rgT_rg (lo : Int) (n : Nat) : rgT lo n = (rg lo n).map eI := by
  unfold rgT rg; rw [List.map_map]; rfl
def b62 (i : Int) : Prop := -4611686018427387904 ≤ i ∧ i < 4611686018427387904
instance : Decidable (b62 i) := by unfold b62; exact inferInstance
@[irreducible] def rgR (lo hi : Int) : R (List Int) := if b62 lo ∧ b62 hi then .ok (rg lo (hi - lo).toNat) else .bad
theorem rg_1 (p : Int × Unit) : Lo (rg1 (aC eI aN p)) (rgR 0 p.1) (List.map eI) := by
  show Lo (if decide (-4611686018427387904 ≤ p.1) && decide (p.1 < 4611686018427387904) then some (rgT 0 p.1.toNat) else none) _ _
  unfold rgR b62
  by_cases h : -4611686018427387904 ≤ p.1 ∧ p.1 < 4611686018427387904
  · have h2 : (-4611686018427387904 ≤ (0 : Int) ∧ (0 : Int) < 4611686018427387904) ∧ -4611686018427387904 ≤ p.1 ∧ p.1 < 4611686018427387904 := ⟨by decide, h⟩
    have e1 : (decide (-4611686018427387904 ≤ p.1) && decide (p.1 < 4611686018427387904)) = true := by simp [h]
    rw [if_pos e1, if_pos h2, rgT_rg, Int.sub_zero]; exact rfl
  · have h2 : ¬ ((-4611686018427387904 ≤ (0 : Int) ∧ (0 : Int) < 4611686018427387904) ∧ -4611686018427387904 ≤ p.1 ∧ p.1 < 4611686018427387904) := fun e => h e.2
    rw [if_neg h2]; trivial
def enumL : Nat → List α → List (Int × α × Unit)
  | _, [] => []
  | n, x :: xs => ((n : Int), x, ()) :: enumL (n + 1) xs
/-! sums, all, any, max, min -/
theorem intsT_map : ∀ xs : List Int, intsT (xs.map eI) = some xs
  | [] => rfl
  | x :: xs => by rw [List.map_cons]; show (intsT (xs.map eI)).map (x :: ·) = _; rw [intsT_map xs]; rfl
theorem blsT_map' : ∀ xs : List Bool, blsT (xs.map eB) = some xs
  | [] => rfl
  | x :: xs => by rw [List.map_cons]; show (blsT (xs.map eB)).map (x :: ·) = _; rw [blsT_map' xs]; rfl
theorem all_L (p : List Bool × Unit) : all1O (aC (eL eB) aN p) = some (eB (p.1.all idB)) := by
  show (blsT (p.1.map eB)).map (fun bs => T.bl (bs.all id)) = _; rw [blsT_map']; rfl
theorem ew_ixP {γ : Type} {Γ : Ctx} {i : Nat} {j : Int} {t : T} {k : α → R γ} (a : α) (f : α → T) (hw : ixO t (.int j) = some (f a)) (h0 : Γ[i]? = some (.is (.fz t)) := by rfl) : EW Γ (ixA i (rdC (.int j))) (k a) k f Γ := ew_pure fun ρ hs => by
  have e0 : has i ρ = .t t := by rw [has_e, hs.is h0]
  have e1 : ixA i (rdC (.int j)) ρ = liftO (ixO t (.int j)) ρ := by
    unfold ixA; rw [e0]
    show (match has i ρ with
      | .t t => liftO (ixO t (.int j)) ρ
      | .o (.l ts) => liftO (atT ts j) ρ
      | _ => .bad : Res T) = _
    rw [e0]
  rw [e1, hw]; rfl
theorem op2c {γ α1 : Type} {Γ Γ' : Ctx} {e1 : M T} {t : T} {r : R γ} {o : T → T → Option T} {f1 : α1 → T} {f : α → T} {k : α → R γ} {w : α1 → α} (hw : ∀ a, o (f1 a) t = some (f (w a))) (h : EW Γ e1 r (fun a => k (w a)) f1 Γ') : EW Γ (op2 o e1 (rdC t)) r k f Γ' :=
  ew_bind h fun a => by
    intro β P K hk ρ hs
    show Good P ((liftO (o (f1 a) t) ρ).bind K) _
    rw [hw a]; exact hk _ ρ hs
/-! among -/
/-! ### name op= e -/
end
end FL.NL

/-! NL6: in; sorted; two clauses. -/
namespace FL.NL
open PySem
variable {α β γ : Type}
section
variable {Γ Γ' : Ctx} {i : Nat} {e : M T} {r : R γ} {k : Bool → R γ}
end
/-! ### two clauses -/
section
variable {Γ : Ctx} {vs vs1 : List Nat} {g g1 : MG} {test test1 : M Bool} {elt : M T} {fx : α → T} {fe : β → T} {sl : α → List (Nat × Sp)} {src : M (List T)}
end
end FL.NL

/-! NL7: values of any kind; readings as programs; errors told. -/
namespace FL.NL
open PySem
variable {α β γ δ σ : Type}
section
variable {Γ Γ' : Ctx} {r : R γ} {k : T → R γ} {ths : List Str} {cls : List Cl} {fs : M (List T)} {F : Sg} {f1 : α → List T} {i : Nat}
end
/-! ### values of any kind brought to a type -/
theorem sw_re {Γ Γ0 : Ctx} {s : MS} {r : R γ} {P : γ → Res Fl → Prop} (h : SW Γ0 s r P) (e : Γ = Γ0 := by rfl) : SW Γ s r P := e ▸ h
/-- t is f of what as finds -/
def As (as : T → R α) (f : α → T) : Prop := ∀ t, match as t with
  | .ok a => t = f a
  | .bad => True
  | _ => False
def asI (t : T) : R Int := match t with | .int i => .ok i | _ => .bad
def asB (t : T) : R Bool := match t with | .bl x => .ok x | _ => .bad
def asT (t : T) : R (List T) := match t with | .tup x => .ok x | _ => .bad
theorem as_B : As asB eB := fun t => by cases t <;> first | exact rfl | trivial
/-! len, index, is, isinstance -/
end FL.NL

/-! NL8: all ends of programs over drawn values. -/
namespace FL.NL
open PySem
variable {α β γ σ : Type}
namespace R
end R
end FL.NL

/-! NL9: what is walked, a text among it. -/
namespace FL.NL
open PySem
section
variable {α γ : Type} {Γ Γ' : Ctx} {e : M T}
theorem ew_iLA {r : R γ} {f : α → T} {k : List α → R γ} (h : EW Γ e r k (eL f) Γ') : EW Γ (iSeqA e) r k (List.map f) Γ' := ew_bind h fun a => ew_pure (a := a) fun ρ hs => rfl
/-- a text's signs -/
def chS (z : Str) : List Str := z.cps.toList.map fun c => ⟨#[c]⟩
theorem chT_eq (z : Str) : chT z = (chS z).map eS := by unfold chT chS; rw [List.map_map]; rfl
theorem ew_iSA {r : R γ} {k : List Str → R γ} (h : EW Γ e r (fun z => k (chS z)) eS Γ') : EW Γ (iSeqA e) r k (List.map eS) Γ' := fun β P K hk ρ hs => by
  unfold iSeqA
  rw [res_bind_assoc]
  refine h β P _ (fun t ρ' hs' => ?_) ρ hs
  show Good P (K (chT t) ρ') (k (chS t))
  have := hk (chS t) ρ' hs'
  rw [chT_eq]
  exact this
end
end FL.NL

/-! NL10: a text's methods of one argument. -/
namespace FL.NL
open PySem
section
variable {α α2 γ : Type} {Γ Γ' Γ'' : Ctx} {e1 e2 : M T} {r : R γ} {k : α → R γ}
end
end FL.NL

/-! NL11: a law's turn, draw by draw. -/
namespace FL.NL
open PySem
variable {α β γ σ : Type}
theorem to {Q : β → Prop} {r : R α} {a : α} {k : α → R β} (e : r = .ok a) (h : R.All Q (k a)) : R.All Q (r.bind k) := by rw [e, R.bind_ok]; exact h
end FL.NL

/-! NL12: values of closed steps. -/
namespace FL.NL
open PySem
variable {α β γ σ : Type}
instance : Inhabited T := ⟨.non⟩
instance : Inhabited Str := ⟨PySem.Str.ofString ""⟩
end FL.NL

/-! NL13: operations of trees as they are. -/
namespace FL.NL
open PySem
section
variable {α α1 α2 γ : Type} {Γ Γ' Γ'' : Ctx} {e1 e2 : M T} {es : M (List T)} {r : R γ}
def optR (x : Option T) : R T := match x with
  | some t => .ok t
  | none => .bad
def optL (x : Option O) : R (List T) := match x with
  | some (.l ts) => .ok ts
  | _ => .bad
end
end FL.NL

/-! NL14: return within a loop of a def that was lent the row. -/
namespace FL.NL
open PySem PySem.Spec FL
section
variable {α σ : Type} {Γ Γ' : Ctx} {e : M T} {s2 : MS} {f : α → T}
theorem rt_M (b : α) (x : Res Fl) (_ : ∃ t ρ, x = .ok (.rt t) ρ) (h : PM f b x) : Good (PM f) x (.ok b) := h
theorem sw_retCM {Δ : σ → Ctx} {r : R (Ct σ α)} (h : EW Γ e r (fun a => .ok (Ct.rt a)) f Γ') (h0 : Γ'[0]? = some (.row true) := by rfl) : SW Γ (sq (sRet e) s2) r (PC (PM f) Δ) := by
  rw [sq_dead dead_ret]
  intro ρ hs
  refine h Fl (PC (PM f) Δ) (fun t ρ => .ok (.rt t) ρ) (fun a ρ' hs' => ?_) ρ hs
  obtain ⟨x, ex, o, hx, ho⟩ := hs'.get 0 _ h0
  have hx : x = .pa o := hx
  subst hx
  refine ⟨⟨_, _, rfl⟩, ρ', o, ?_, ho, .inl rfl⟩
  cases ρ' with
  | nil => simp at ex
  | cons y ys => simp at ex; subst ex; rfl
end
section
variable {α β γ σ : Type}
end
end FL.NL

/-! NL15: drawn lists whose entries are not known. -/
namespace FL.NL
open PySem
variable {α β γ σ : Type}
theorem Le.e {x y : T} (h : x = y) {Γ Γ' : Ctx} (t : Le Γ Γ') : Le (.is (.fz x) :: Γ) (.is (.fz y) :: Γ') := by
  subst h; exact .k t
theorem len1 {r : List α} (h : r.length = 1) : ∃ a, r = [a] := by
  match r, h with
  | [a], _ => exact ⟨a, rfl⟩
end FL.NL

/-! NL16: range with a step. -/
namespace FL.NL
open PySem
/-- a name, then the others -/
theorem ew_consv {α1 α2 γ : Type} {i : Nat} (a : α1) (f1 : α1 → T) {es : M (List T)} {f2 : α2 → List T} {k : α1 × α2 → R γ} {r : R γ} {Γ Γ'' : Ctx} (h2 : EW Γ es r (fun b => k (a, b)) f2 Γ'') (h : Γ[i]? = some (.is (.fz (f1 a))) := by rfl) : EW Γ (rdCons (rdA i) es) r k (aC f1 f2) Γ'' := fun β P K hk ρ hs => by
  have e : rdCons (rdA i) es ρ = (es ρ).bind fun xs ρ => .ok (f1 a :: xs) ρ := by
    unfold rdCons rdA
    rw [hs.is h]
    rfl
  rw [e, res_bind_assoc]
  exact h2 β P _ (fun b ρ' hs' => hk (a, b) ρ' hs') ρ hs
end FL.NL

/-! NL17: operations of trees, brought to a type. -/
namespace FL.NL
open PySem
section
variable {α β γ α1 α2 : Type} {Γ Γ' Γ'' : Ctx} {e e1 e2 : M T} {es : M (List T)} {r : R γ}
theorem As.val {as : T → R α} {f : α → T} (h : As as f) {t : T} {r : R α} (e : as t = r) : r = .bad ∨ ∃ a, r = .ok a ∧ t = f a := by
  have z := h t
  rw [e] at z
  cases r with
  | bad => exact .inl rfl
  | exc x => exact z.elim
  | ok a => exact .inr ⟨a, rfl, z⟩
  | dr m g => exact z.elim
theorem As.mk {as : T → R α} {f : α → T} (h : ∀ t r, as t = r → r = .bad ∨ ∃ a, r = .ok a ∧ t = f a) : As as f := fun t => by
  rcases h t _ rfl with e | ⟨a, e, q⟩
  · rw [e]; trivial
  · rw [e]; exact q
/-- several trees -/
def AsS (as : List T → R α) (f : α → List T) : Prop := ∀ ts r, as ts = r → r = .bad ∨ ∃ a, r = .ok a ∧ ts = f a
theorem AsS.val {as : List T → R α} {f : α → List T} (h : AsS as f) {t : List T} {r : R α} (e : as t = r) : r = .bad ∨ ∃ a, r = .ok a ∧ t = f a := h t r e
def asAll (as : T → R α) : List T → R (List α)
  | [] => .ok []
  | t :: ts => (as t).bind fun a => (asAll as ts).bind fun l => .ok (a :: l)
def asO (as : T → R α) (t : T) : R (Option α) := match t with | .non => .ok none | t => (as t).bind fun a => .ok (some a)
/-! the operations -/
theorem lo_as {as : T → R α} {f : α → T} (h : As as f) (x : Option T) : Lo x ((optR x).bind as) f := by
  cases x with
  | none => unfold optR; rw [R.bind_bad]; trivial
  | some t =>
    unfold optR; rw [R.bind_ok]
    rcases h.val (t := t) rfl with e | ⟨a, e, q⟩
    · rw [e]; trivial
    · rw [e, q]; exact rfl
/-- sorted(x) -/
def sortR (as : T → R α) (x : T) : R (List α) := (optL (sortA [x])).bind (asAll as)
/-- x in y, texts -/
def inSR (x y : Str) : R Bool := (optR (inO (eS x) (eS y))).bind asB
theorem ew_inS {k1 : Str → R γ} {k : Bool → R γ} (h1 : EW Γ e1 r k1 eS Γ') (h2 : ∀ a, EW Γ' e2 (k1 a) (fun b => (inSR a b).bind k) eS Γ'') : EW Γ (op2 inO e1 e2) r k eB Γ'' := ew_op2p (fun a b => lo_as as_B _) h1 h2
end
end FL.NL

/-! NL18: constants as arguments; zip(*rows); stars in displays. -/
namespace FL.NL
open PySem
/-- a constant, then the others -/
theorem ew_consc {α1 α2 γ : Type} {t : T} (a : α1) (f1 : α1 → T) {es : M (List T)} {f2 : α2 → List T} {k : α1 × α2 → R γ} {r : R γ} {Γ Γ'' : Ctx} (h2 : EW Γ es r (fun b => k (a, b)) f2 Γ'') (h : f1 a = t := by rfl) : EW Γ (rdCons (rdC t) es) r k (aC f1 f2) Γ'' := fun β P K hk ρ hs => by
  have e : rdCons (rdC t) es ρ = (es ρ).bind fun xs ρ => .ok (f1 a :: xs) ρ := by
    unfold rdCons rdC
    rw [h]
    rfl
  rw [e, res_bind_assoc]
  exact h2 β P _ (fun b ρ' hs' => hk (a, b) ρ' hs') ρ hs
/-- tests with no effects -/
theorem sw_ifp {γ : Type} {Γ Γ' : Ctx} {c : M Bool} {sa sb s2 : MS} {ra rb : R γ} {P : γ → Res Fl → Prop} (b : Bool) (hc : ∀ {γ : Type} (k : Bool → R γ), EW Γ c (k b) k idB Γ') (ha : SW Γ' (sq sa s2) ra P) (hb : SW Γ' (sq sb s2) rb P) : SW Γ (sq (sIf c sa sb) s2) (if b = true then ra else rb) P := sw_if (hc (fun b => if b = true then ra else rb)) ha hb
theorem sw_ifjp {σ γ : Type} {Γ Γ' : Ctx} {c : M Bool} {sa sb s2 : MS} {Δ : σ → Ctx} {ra rb : R σ} {k : σ → R γ} {P : γ → Res Fl → Prop} (b : Bool) (hc : ∀ {γ : Type} (k : Bool → R γ), EW Γ c (k b) k idB Γ') (ha : SW Γ' sa ra (PN Δ)) (hb : SW Γ' sb rb (PN Δ)) (hn : ∀ v, SW (Δ v) s2 (k v) P) : SW Γ (sq (sIf c sa sb) s2) ((if b = true then ra else rb).bind k) P := sw_ifj (hc (fun b => (if b = true then ra else rb).bind k)) ha hb hn
/-! zip(*rows) -/
/-! displays of one type, with stars -/
/-! among, however it is decided -/
/-! and, or: the left side with no effects -/
theorem ew_andTxp {γ : Type} {Γ Γ' : Ctx} {g h : M Bool} {k : Bool → R γ} {rb : R Bool} (b : Bool) (h1 : ∀ {γ : Type} (k : Bool → R γ), EW Γ g (k b) k idB Γ') (h2 : EV Γ' h rb idB Γ') : EW Γ (andT g h) ((if b = true then rb else .ok false).bind k) k idB Γ' := ew_andTx (h1 fun a => (if a = true then rb else .ok false).bind k) h2
theorem ew_orTxp {γ : Type} {Γ Γ' : Ctx} {g h : M Bool} {k : Bool → R γ} {rb : R Bool} (b : Bool) (h1 : ∀ {γ : Type} (k : Bool → R γ), EW Γ g (k b) k idB Γ') (h2 : EV Γ' h rb idB Γ') : EW Γ (orT g h) ((if b = true then .ok true else rb).bind k) k idB Γ' := ew_orTx (h1 fun a => (if a = true then .ok true else rb).bind k) h2
/-! operands with no effects -/
section
variable {α α1 α2 γ : Type} {Γ Γ' Γ'' : Ctx} {e1 e2 : M T} {o : T → T → Option T} {f1 : α1 → T} {f2 : α2 → T} {f : α → T} {k : α → R γ} {r : R γ}
theorem ew_op2b {w : α1 → α2 → α} (hw : ∀ a b, o (f1 a) (f2 b) = some (f (w a b))) (a : α1) (h1 : ∀ {γ : Type} (k : α1 → R γ), EW Γ e1 (k a) k f1 Γ') (b : α2) (h2 : ∀ {γ : Type} (k : α2 → R γ), EW Γ' e2 (k b) k f2 Γ'') : EW Γ (op2 o e1 e2) (k (w a b)) k f Γ'' :=
  ew_op2 hw (h1 fun a => k (w a b)) fun a => h2 fun b => k (w a b)
theorem ew_op2pb {r0 : α1 → α2 → R α} (hw : ∀ a b, Lo (o (f1 a) (f2 b)) (r0 a b) f) (a : α1) (h1 : ∀ {γ : Type} (k : α1 → R γ), EW Γ e1 (k a) k f1 Γ') (b : α2) (h2 : ∀ {γ : Type} (k : α2 → R γ), EW Γ' e2 (k b) k f2 Γ'') : EW Γ (op2 o e1 e2) ((r0 a b).bind k) k f Γ'' :=
  ew_op2p hw (h1 fun a => (r0 a b).bind k) fun a => h2 fun b => (r0 a b).bind k
theorem ew_op2r {w : α1 → α2 → α} (hw : ∀ a b, o (f1 a) (f2 b) = some (f (w a b))) (b : α2) (h2 : ∀ {γ : Type} (k : α2 → R γ), EW Γ' e2 (k b) k f2 Γ'') (h1 : EW Γ e1 r (fun a => k (w a b)) f1 Γ') : EW Γ (op2 o e1 e2) r k f Γ'' :=
  ew_op2 hw h1 fun a => h2 fun b => k (w a b)
theorem ew_op2pr {r0 : α1 → α2 → R α} (hw : ∀ a b, Lo (o (f1 a) (f2 b)) (r0 a b) f) (b : α2) (h2 : ∀ {γ : Type} (k : α2 → R γ), EW Γ' e2 (k b) k f2 Γ'') (h1 : EW Γ e1 r (fun a => (r0 a b).bind k) f1 Γ') : EW Γ (op2 o e1 e2) r k f Γ'' :=
  ew_op2p hw h1 fun a => h2 fun b => (r0 a b).bind k
theorem ew_op2l {w : α1 → α2 → α} (hw : ∀ a b, o (f1 a) (f2 b) = some (f (w a b))) (a : α1) (h1 : ∀ {γ : Type} (k : α1 → R γ), EW Γ e1 (k a) k f1 Γ') (h2 : EW Γ' e2 r (fun b => k (w a b)) f2 Γ'') : EW Γ (op2 o e1 e2) r k f Γ'' := fun β P K hk ρ hs => by
  obtain ⟨ρ', e, hs'⟩ := ew_val h1 hs
  have e0 : op2 o e1 e2 ρ = (e2 ρ').bind fun y ρ => liftO (o (f1 a) y) ρ := by unfold op2; rw [e]; rfl
  rw [e0, res_bind_assoc]
  refine h2 β P _ (fun b ρ2 hs2 => ?_) ρ' hs'
  rw [hw a b]; exact hk _ ρ2 hs2
theorem ew_op2pl {r0 : α1 → α2 → R α} (hw : ∀ a b, Lo (o (f1 a) (f2 b)) (r0 a b) f) (a : α1) (h1 : ∀ {γ : Type} (k : α1 → R γ), EW Γ e1 (k a) k f1 Γ') (h2 : EW Γ' e2 r (fun b => (r0 a b).bind k) f2 Γ'') : EW Γ (op2 o e1 e2) r k f Γ'' := fun β P K hk ρ hs => by
  obtain ⟨ρ', e, hs'⟩ := ew_val h1 hs
  have e0 : op2 o e1 e2 ρ = (e2 ρ').bind fun y ρ => liftO (o (f1 a) y) ρ := by unfold op2; rw [e]; rfl
  rw [e0, res_bind_assoc]
  exact h2 β P _ (fun b ρ2 hs2 => ew_lift (hw a b) β P K hk ρ2 hs2) ρ' hs'
theorem ew_consp {β : Type} {es : M (List T)} {g : β → List T} {k : α1 × β → R γ} (a : α1) (h1 : ∀ {γ : Type} (k : α1 → R γ), EW Γ e1 (k a) k f1 Γ') (h2 : EW Γ' es r (fun b => k (a, b)) g Γ'') : EW Γ (rdCons e1 es) r k (aC f1 g) Γ'' := fun δ P K hk ρ hs => by
  obtain ⟨ρ', e, hs'⟩ := ew_val h1 hs
  have e0 : rdCons e1 es ρ = (es ρ').bind fun xs ρ => .ok (f1 a :: xs) ρ := by unfold rdCons; rw [e]; rfl
  rw [e0, res_bind_assoc]
  exact h2 δ P _ (fun b ρ2 hs2 => hk (a, b) ρ2 hs2) ρ' hs'
end
/-! plain values, told in full -/
/-! sums -/
/-! sets -/
def lsetXR (x : T) : R Int := (optR (lenSetX x)).bind asI
/-! reversed -/
end FL.NL

/-! NL19: dicts whose keys are tuples of ints and whose values are ints. -/
namespace FL.NL
open PySem
section
variable {Γ Γ' Γ'' : Ctx} {i : Nat} {e1 e2 : M T} {γ : Type}
end
/-- an option that holds something -/
@[irreducible] def unO {α : Type} (o : Option α) : R α := match o with
  | some a => .ok a
  | none => .bad
theorem ew_unO {α γ : Type} {Γ Γ' : Ctx} {e : M T} {f : α → T} {r : R γ} {k : α → R γ} (h : EW Γ e r (fun o => (unO o).bind k) (eO f) Γ') : EW Γ e r k f Γ' := fun β P K hk ρ hs => by
  refine h β P K (fun o ρ hs => ?_) ρ hs
  show Good P (K (eO f o) ρ) ((unO o).bind k)
  unfold unO
  cases o with
  | some a => rw [R.bind_ok]; exact hk a ρ hs
  | none => rw [R.bind_e]; trivial
end FL.NL

/-! NL20: dicts whose keys are tuples of ints, every value True: sets that keep their order. -/
namespace FL.NL
open PySem
section
variable {Γ Γ' : Ctx} {i : Nat} {e : M T} {s2 : MS} {γ : Type} {r : R γ} {P : γ → Res Fl → Prop}
end
end FL.NL

/-! NL21: four names at once. -/
namespace FL.NL
open PySem
section
variable {Γ Γ' : Ctx} {i j l m : Nat} {s2 : MS} {γ : Type} {r : R γ} {P : γ → Res Fl → Prop}
end
end FL.NL

/-! NL22: dicts of any keys (ints, texts, tuples of such) and any values. -/
namespace FL.NL
open PySem
abbrev Dic (κ α : Type) := List (κ × α)
section
variable {κ α β : Type} [DecidableEq κ]
def mGt : Dic κ α → κ → Option α
  | [], _ => none
  | p :: d, k => if p.1 = k then some p.2 else mGt d k
def mRp : Dic κ α → κ → α → Dic κ α
  | [], _, _ => []
  | p :: d, k, v => (p.1, if p.1 = k then v else p.2) :: mRp d k v
def mSt (d : Dic κ α) (k : κ) (v : α) : Dic κ α := if (d.any fun p => decide (p.1 = k)) = true then mRp d k v else d ++ [(k, v)]
@[irreducible] def mgR (d : Dic κ α) (k : κ) : R α := match mGt d k with
  | some v => .ok v
  | none => .bad
@[irreducible] def msR (d : Dic κ α) (k : κ) (v : α) : R (Dic κ α) := if d.length < 16777216 then .ok (mSt d k v) else .bad
def mK (d : Dic κ α) : List κ := d.map Prod.fst
def mV (f : α → T) (d : Dic κ α) : List T := d.map fun p => f p.2
theorem valP_M (f : α → T) (k : κ) : ∀ d : Dic κ α, valP (mK d) (mV f d) k = (mGt d k).map f
  | [] => rfl
  | p :: d => by
    show (if p.1 = k then some (f p.2) else valP (mK d) (mV f d) k) = _
    unfold mGt
    by_cases h : p.1 = k
    · rw [if_pos h, if_pos h]; rfl
    · rw [if_neg h, if_neg h]; exact valP_M f k d
theorem repP_M (f : α → T) (k : κ) (v : α) : ∀ d : Dic κ α, repP (mK d) (mV f d) k (f v) = mV f (mRp d k v)
  | [] => rfl
  | p :: d => by
    show (if p.1 = k then f v else f p.2) :: repP (mK d) (mV f d) k (f v) = f (if p.1 = k then v else p.2) :: mV f (mRp d k v)
    rw [repP_M f k v d]
    by_cases h : p.1 = k
    · rw [if_pos h, if_pos h]
    · rw [if_neg h, if_neg h]
theorem mRp_K (k : κ) (v : α) : ∀ d : Dic κ α, mK (mRp d k v) = mK d
  | [] => rfl
  | p :: d => by
    show p.1 :: mK (mRp d k v) = p.1 :: mK d
    rw [mRp_K k v d]
theorem putP_M (f : α → T) (d : Dic κ α) (k : κ) (v : α) : putP (mK d) (mV f d) k (f v) = (mK (mSt d k v), mV f (mSt d k v)) := by
  unfold putP mSt
  have e : ((mK d).any fun k' => decide (k' = k)) = d.any fun p => decide (p.1 = k) := by unfold mK; rw [List.any_map]; rfl
  rw [e]
  by_cases h : (d.any fun p => decide (p.1 = k)) = true
  · rw [if_pos h, if_pos h, repP_M, mRp_K]
  · rw [if_neg h, if_neg h]
    unfold mK mV
    simp
/-- what a kind of keys must give -/
structure KOk (ek : κ → T) (ob : List κ → List T → O) : Prop where
  get : ∀ ks ts k, getO (ob ks ts) (ek k) = some (valP ks ts k)
  put : ∀ ks ts k t, putO (ob ks ts) (ek k) t = if ks.length < 16777216 then some (ob (putP ks ts k t).1 (putP ks ts k t).2) else none
  tget : ∀ ks ts k, getH (.t (frzO (ob ks ts))) (ek k) = some (valP ks ts k)
  dO : ∀ ks ts, isDH (.o (ob ks ts)) = true
  dT : ∀ ks ts, isDH (.t (frzO (ob ks ts))) = true
def oM (ob : List κ → List T → O) (f : α → T) (d : Dic κ α) : O := ob (mK d) (mV f d)
def eM (ob : List κ → List T → O) (f : α → T) (d : Dic κ α) : T := frzO (oM ob f d)
theorem valP_map {μ : Type} [DecidableEq μ] {kf : κ → μ} (hi : ∀ a b, kf a = kf b → a = b) (k : κ) : ∀ (ks : List κ) (ts : List T), valP (ks.map kf) ts (kf k) = valP ks ts k
  | [], ts => by cases ts <;> rfl
  | _ :: _, [] => rfl
  | a :: ks, t :: ts => by
    show (if kf a = kf k then some t else valP (ks.map kf) ts (kf k)) = if a = k then some t else valP ks ts k
    rw [valP_map hi k ks ts]
    by_cases h : a = k
    · rw [if_pos h, if_pos (by rw [h])]
    · rw [if_neg h, if_neg (fun e => h (hi _ _ e))]
theorem repP_map {μ : Type} [DecidableEq μ] {kf : κ → μ} (hi : ∀ a b, kf a = kf b → a = b) (k : κ) (t : T) : ∀ (ks : List κ) (ts : List T), repP (ks.map kf) ts (kf k) t = repP ks ts k t
  | [], ts => by cases ts <;> rfl
  | _ :: _, [] => rfl
  | a :: ks, u :: ts => by
    show (if kf a = kf k then t else u) :: repP (ks.map kf) ts (kf k) t = (if a = k then t else u) :: repP ks ts k t
    rw [repP_map hi k t ks ts]
    by_cases h : a = k
    · rw [if_pos h, if_pos (by rw [h])]
    · rw [if_neg h, if_neg (fun e => h (hi _ _ e))]
theorem putP_map {μ : Type} [DecidableEq μ] {kf : κ → μ} (hi : ∀ a b, kf a = kf b → a = b) (k : κ) (t : T) (ks : List κ) (ts : List T) : putP (ks.map kf) ts (kf k) t = ((putP ks ts k t).1.map kf, (putP ks ts k t).2) := by
  unfold putP
  have e : ((ks.map kf).any fun k' => decide (k' = kf k)) = ks.any fun k' => decide (k' = k) := by
    rw [List.any_map]
    congr 1
    funext a
    show decide (kf a = kf k) = decide (a = k)
    by_cases h : a = k
    · simp [h]
    · have : kf a ≠ kf k := fun e => h (hi _ _ e)
      simp [h, this]
  rw [e]
  by_cases h : (ks.any fun k' => decide (k' = k)) = true
  · rw [if_pos h, if_pos h, repP_map hi]
  · rw [if_neg h, if_neg h]; simp
end
section
variable {κ α : Type} [DecidableEq κ] {ek : κ → T} {ob : List κ → List T → O} {f : α → T} {Γ Γ' Γ'' : Ctx} {i : Nat} {e e1 e2 : M T} {s2 : MS} {γ : Type} {r : R γ} {P : γ → Res Fl → Prop} {d : Dic κ α}
/-- the slot holds the dict -/
abbrev IsM (ob : List κ → List T → O) (f : α → T) (d : Dic κ α) (p : Option Sp) : Prop := p = some (.is (.ow (oM ob f d))) ∨ p = some (.is (.fz (eM ob f d)))
theorem IsM.get (hk : KOk ek ob) (h : IsM ob f d Γ[i]?) {ρ : Env} (hs : St ρ Γ) (k : κ) : isDH (has i ρ) = true ∧ getH (has i ρ) (ek k) = some ((mGt d k).map f) := by
  rcases h with h | h
  · have o0 : has i ρ = .o (oM ob f d) := by unfold has; rw [hs.is h]
    rw [o0]
    refine ⟨hk.dO _ _, ?_⟩
    show getO (oM ob f d) (ek k) = _
    unfold oM
    rw [hk.get, valP_M]
  · have o0 : has i ρ = .t (eM ob f d) := by unfold has; rw [hs.is h]
    rw [o0]
    refine ⟨hk.dT _ _, ?_⟩
    unfold eM oM
    rw [hk.tget, valP_M]
/-- d[k] -/
theorem ew_mg (hk : KOk ek ob) {k : α → R γ} (h0 : IsM ob f d Γ[i]?) (h : EW Γ e r (fun a => (mgR d a).bind k) ek Γ') (h1 : IsM ob f d Γ'[i]?) : EW Γ (dgA i e) r k f Γ' := fun β P K hK ρ hs => by
  have hrun : (dgA i e ρ).bind K = if isDH (has i ρ) = true then (e ρ).bind fun y ρ => (match getH (has i ρ) y with
      | some (some t) => Res.ok t ρ
      | _ => .bad).bind K else .bad := by
    unfold dgA
    by_cases c : isDH (has i ρ) = true
    · rw [if_pos c, if_pos c]
      cases e ρ <;> rfl
    · rw [if_neg c, if_neg c]; rfl
  have hd : isDH (has i ρ) = true := by
    rcases h0 with h0 | h0
    · have o0 : has i ρ = .o (oM ob f d) := by unfold has; rw [hs.is h0]
      rw [o0]; exact hk.dO _ _
    · have o0 : has i ρ = .t (eM ob f d) := by unfold has; rw [hs.is h0]
      rw [o0]; exact hk.dT _ _
  rw [hrun, if_pos hd]
  refine h β P _ (fun a ρ' hs' => ?_) ρ hs
  rw [(IsM.get hk h1 hs' a).2]
  show Good P _ ((mgR d a).bind k)
  have em : mgR d a = match mGt d a with
      | some v => .ok v
      | none => .bad := by unfold mgR; rfl
  rw [em]
  cases mGt d a with
  | some w => simp only [R.bind_ok]; exact hK w ρ' hs'
  | none => simp only [R.bind_bad]; trivial
theorem dh_of (hk : KOk ek ob) (h0 : IsM ob f d Γ[i]?) {ρ : Env} (hs : St ρ Γ) : isDH (has i ρ) = true := by
  rcases h0 with h0 | h0
  · have o0 : has i ρ = .o (oM ob f d) := by unfold has; rw [hs.is h0]
    rw [o0]; exact hk.dO _ _
  · have o0 : has i ρ = .t (eM ob f d) := by unfold has; rw [hs.is h0]
    rw [o0]; exact hk.dT _ _
theorem ew_mgp (hk : KOk ek ob) (kk : κ) {k : α → R γ} (h0 : IsM ob f d Γ[i]?) (h : ∀ {γ : Type} (k : κ → R γ), EW Γ e (k kk) k ek Γ') (h1 : IsM ob f d Γ'[i]?) : EW Γ (dgA i e) ((mgR d kk).bind k) k f Γ' := ew_mg hk h0 (h _) h1
/-- d.get(k) -/
theorem ew_mg1 (hk : KOk ek ob) {k : Option α → R γ} (h0 : IsM ob f d Γ[i]?) (h : EW Γ e r (fun a => k (mGt d a)) ek Γ') (h1 : IsM ob f d Γ'[i]?) : EW Γ (dg1A i e) r k (eO f) Γ' := fun β P K hK ρ hs => by
  have hrun : (dg1A i e ρ).bind K = if isDH (has i ρ) = true then (e ρ).bind fun y ρ => (match getH (has i ρ) y with
      | some (some t) => Res.ok t ρ
      | some none => .ok .non ρ
      | _ => .bad).bind K else .bad := by
    unfold dg1A
    by_cases c : isDH (has i ρ) = true
    · rw [if_pos c, if_pos c]
      cases e ρ <;> rfl
    · rw [if_neg c, if_neg c]; rfl
  rw [hrun, if_pos (dh_of hk h0 hs)]
  refine h β P _ (fun a ρ' hs' => ?_) ρ hs
  rw [(IsM.get hk h1 hs' a).2]
  have := hK (mGt d a) ρ' hs'
  show Good P _ (k (mGt d a))
  cases hg : mGt d a with
  | some w => rw [hg] at this; exact this
  | none => rw [hg] at this; exact this
theorem ew_mg1p (hk : KOk ek ob) (kk : κ) {k : Option α → R γ} (h0 : IsM ob f d Γ[i]?) (h : ∀ {γ : Type} (k : κ → R γ), EW Γ e (k kk) k ek Γ') (h1 : IsM ob f d Γ'[i]?) : EW Γ (dg1A i e) (k (mGt d kk)) k (eO f) Γ' := ew_mg1 hk h0 (h fun a => k (mGt d a)) h1
/-- k in d, k not in d -/
theorem ew_min (n : Bool) (hk : KOk ek ob) {k : Bool → R γ} (h : EW Γ e r (fun a => k (if n = true then !(mGt d a).isSome else (mGt d a).isSome)) ek Γ') (h1 : IsM ob f d Γ'[i]?) : EW Γ (dinA n e i) r k eB Γ' := fun β P K hK ρ hs => by
  have hrun : (dinA n e i ρ).bind K = (e ρ).bind fun y ρ => (match getH (has i ρ) y with
      | some o => Res.ok (T.bl (if n = true then !o.isSome else o.isSome)) ρ
      | _ => .bad).bind K := by
    unfold dinA
    cases e ρ <;> rfl
  rw [hrun]
  refine h β P _ (fun a ρ' hs' => ?_) ρ hs
  rw [(IsM.get hk h1 hs' a).2]
  have := hK (if n = true then !(mGt d a).isSome else (mGt d a).isSome) ρ' hs'
  have e3 : ((mGt d a).map f).isSome = (mGt d a).isSome := by cases mGt d a <;> rfl
  show Good P (K (T.bl (if n = true then !((mGt d a).map f).isSome else ((mGt d a).map f).isSome)) ρ') _
  rw [e3]
  exact this
theorem ew_mninp (hk : KOk ek ob) (kk : κ) {k : Bool → R γ} (h : ∀ {γ : Type} (k : κ → R γ), EW Γ e (k kk) k ek Γ') (h1 : IsM ob f d Γ'[i]?) : EW Γ (dinA true e i) (k (!(mGt d kk).isSome)) k eB Γ' := ew_min true hk (h fun a => k (!(mGt d a).isSome)) h1
/-- d[k] = v -/
theorem sw_setM (hk : KOk ek ob) {ev : M T} {k : Dic κ α → R γ} {k1 : α → R γ} (h : EW Γ ev r k1 f Γ') (h0 : Γ'[i]? = some (.is (.ow (oM ob f d)))) (h2 : ∀ v, EW Γ' e (k1 v) (fun a => (msR d a v).bind k) ek Γ'') (h1 : Γ''[i]? = some (.is (.ow (oM ob f d)))) (hn : ∀ d' : Dic κ α, SW (Γ''.set i (.is (.ow (oM ob f d')))) s2 (k d') P) :
    SW Γ (sq (sSetD i e ev) s2) r P := fun ρ hs => by
  have e1 : sq (sSetD i e ev) s2 ρ = (ev ρ).bind fun t ρ => match rdOwn i ρ with
      | some _ => (e ρ).bind fun y ρ => (match (rdOwn i ρ).bind fun o => putO o y t with
        | some o' => s2 (setOwn i o' ρ)
        | none => .bad)
      | none => .bad := by
    unfold sq sSetD withOwn
    cases ev ρ with
    | bad => rfl
    | exc x => rfl
    | ok t ρ1 =>
      show ((match rdOwn i ρ1 with
        | some _ => (e ρ1).bind fun y ρ => match (rdOwn i ρ).bind fun o => putO o y t with
          | some o' => Res.ok Fl.nx (setOwn i o' ρ)
          | none => .bad
        | none => .bad).bind _) = (match rdOwn i ρ1 with
        | some _ => (e ρ1).bind fun y ρ => (match (rdOwn i ρ).bind fun o => putO o y t with
          | some o' => s2 (setOwn i o' ρ)
          | none => .bad)
        | none => .bad)
      cases rdOwn i ρ1 with
      | none => rfl
      | some o1 =>
        show ((e ρ1).bind _).bind _ = (e ρ1).bind _
        cases e ρ1 with
        | bad => rfl
        | exc x => rfl
        | ok y ρ2 =>
          simp only [bind_ok]
          cases (rdOwn i ρ2).bind fun o => putO o y t <;> rfl
  rw [e1]
  refine h Fl P _ (fun v ρ' hs' => ?_) ρ hs
  have o1 : rdOwn i ρ' = some (oM ob f d) := by unfold rdOwn; rw [hs'.is h0]; rfl
  rw [o1]
  refine h2 v Fl P _ (fun a ρ2 hs2 => ?_) ρ' hs'
  have o2 : rdOwn i ρ2 = some (oM ob f d) := by unfold rdOwn; rw [hs2.is h1]; rfl
  rw [o2]
  simp only [Option.bind_some]
  unfold oM
  rw [hk.put]
  have hl : (mK d).length = d.length := by unfold mK; rw [List.length_map]
  rw [hl]
  show Good P _ ((msR d a v).bind k)
  unfold msR
  by_cases c : d.length < 16777216
  · rw [if_pos c, if_pos c, R.bind_ok, putP_M]
    simp only
    have es : ∀ o, setOwn i o ρ2 = ρ2.set i (.ow o) := fun o => by unfold setOwn; rw [hs2.is h1]; rfl
    rw [es]
    exact hn (mSt d a v) _ (hs2.set (p := .is _) rfl i)
  · rw [if_neg c, if_neg c, R.bind_e]; trivial
theorem sw_setMk (hk : KOk ek ob) (kk : κ) {ev : M T} {k : Dic κ α → R γ} (h : EW Γ ev r (fun v => (msR d kk v).bind k) f Γ') (h0 : Γ'[i]? = some (.is (.ow (oM ob f d)))) (h2 : ∀ {γ : Type} (k : κ → R γ), EW Γ' e (k kk) k ek Γ'') (h1 : Γ''[i]? = some (.is (.ow (oM ob f d)))) (hn : ∀ d' : Dic κ α, SW (Γ''.set i (.is (.ow (oM ob f d')))) s2 (k d') P) :
    SW Γ (sq (sSetD i e ev) s2) r P := sw_setM hk h h0 (fun v => h2 fun a => (msR d a v).bind k) h1 hn
end
/-! ### raise, told -/
section
variable {Γ Γ' : Ctx} {γ : Type} {P : γ → Res Fl → Prop} {c g : Str}
end
/-! ### {k: v for ..} -/
section
variable {κ α β α2 : Type} [DecidableEq κ]
variable {vs vs1 : List Nat} {g g1 : MG} {test test1 : M Bool} {ek0 ev0 : M T} {fx : α → T} {fx1 : α2 → T} {ek : κ → T} {fv : β → T} {sl : α → List (Nat × Sp)} {sl1 : α → α2 → List (Nat × Sp)} {Γ Γ0 : Ctx}
end
end FL.NL

/-! NL23: sorted(set(x)). -/
namespace FL.NL
open PySem
end FL.NL

/-! NL24: sorted(d.items()). -/
namespace FL.NL
open PySem
end FL.NL

/-! NL25: x < y, data alike (PD's Key tells the same in the math texts; here for the rules alone). -/
namespace FL.NL
open PySem PySem.W
section
variable {α β : Type}
structure LK (f : α → T) (d : α → PyData) (n : Nat) : Prop where
  td : ∀ a, toD (f a) = some (d a)
  al : ∀ a b, alike (d a) (d b) = true
  nn : ∀ a, d a ≠ .none
  dp : ∀ a, (d a).depth ≤ n
theorem lk_S : LK eS PyData.str 0 := ⟨fun _ => rfl, fun _ _ => rfl, fun _ => nofun, fun _ => Nat.le_refl _⟩
def ltD (d : α → PyData) (a b : α) : Bool := dataLt (d a) (d b)
theorem lt_K {f : α → T} {d : α → PyData} {n : Nat} (K : LK f d n) (hn : n ≤ 64) (a b : α) : ltDO (f a) (f b) = some (eB (ltD d a b)) := by
  unfold ltDO ltB
  rw [K.td a, K.td b]
  have h0 : noneD (d a) = false := by
    have := K.nn a
    cases e : d a <;> simp_all [noneD]
  have h1 := K.dp a
  have h2 : min (d a).depth (d b).depth ≤ 64 := by omega
  simp only [K.al a b, h0, Bool.not_false, Bool.and_self, Bool.true_and, h2, decide_true, if_true]
  rfl
end
end FL.NL

/-! NL26: in, for things of any kind (partial). -/
namespace FL.NL
open PySem
variable {α β γ : Type} {α1 α2 : Type}
end FL.NL

/-! NL27: for k, v in d.items(), d a name that holds a dict of tuple keys and is not used any more. -/
namespace FL.NL
open PySem
end FL.NL

/-! NL28: list.count of data. -/
namespace FL.NL
open PySem PySem.Spec PyProof.Rows L2
variable {α1 α2 γ : Type} {Γ Γ' Γ'' : Ctx} {e1 e2 : M T} {r : R γ}
end FL.NL

/-! NL29: for k in {k: v for ..}, the keys tuples. -/
namespace FL.NL
open PySem
end FL.NL

/-! NL30: len(d), d of tuple keys. -/
namespace FL.NL
open PySem
end FL.NL

/-! NL31: rows unpacked. -/
namespace FL.NL
open PySem
end FL.NL

/-! NL32: groups (for x in xs: d.setdefault(k, []).append(x)), and d.values(). -/
namespace FL.NL
open PySem
section
variable {κ α γ : Type} [DecidableEq κ] {Γ Γ1 Δ : Ctx} {Γ2 : α → Ctx} {gi i : Nat} {src : M (List T)} {g : MG} {kfm : M T} {s2 : MS} {r : R γ} {kr : α → R κ} {f : α → T} {ek : κ → T} {kf : κ → List L2.Key} {k : Dic κ (List α) → R γ} {P : γ → Res Fl → Prop}
end
end FL.NL

/-! NL33: any(row of ints); dict(zip(keys, values)). -/
namespace FL.NL
open PySem
end FL.NL

/-! NL34: sorted(set(x)), x a list of texts. -/
namespace FL.NL
open PySem
end FL.NL

/-! NL35: sorted(set(x)), x a list of tuples of numbers; sorted(d), d's keys tuples, one key at most too. -/
namespace FL.NL
open PySem
end FL.NL

set_option maxHeartbeats 2000000
/-! NL36: int(text); x.pop(). -/
namespace FL.NL
open PySem
variable {α β γ δ σ : Type} {Γ Γ' Γ'' : Ctx} {r : R γ}
end FL.NL

set_option maxHeartbeats 2000000
/-! NL37: a list of one's own walked by a comprehension, asked for an index. -/
namespace FL.NL
open PySem
section
variable {α β γ δ σ : Type} {Γ Γ' Γ'' : Ctx} {r : R γ} {vs : List Nat} {g : MG} {test : M Bool} {elt : M T} {fx : α → T} {fe : β → T} {sl : α → List (Nat × Sp)} {i : Nat} {xs : List α}
end
end FL.NL

set_option maxHeartbeats 2000000
/-! NL38: NAME == e, NAME != e of a list of one's own. -/
namespace FL.NL
open PySem
section
variable {α β γ δ : Type} {Γ Γ' : Ctx} {r : R γ} {i : Nat} {e : M T} {k : Bool → R γ}
end
end FL.NL

/-! NL39: items of a name that may hold None and holds a tuple of items. -/
namespace FL.NL
open PySem FL
end FL.NL

/-! NL40: a display of pairs of bools that is looked up at once. -/
namespace FL.NL
open PySem FL
end FL.NL

/-! NL41: x[i], x[j] = a, b. -/
namespace FL.NL
open PySem FL
section
variable {α γ β : Type} {Γ Γ' Γ'' : Ctx} {i : Nat} {fi fj : M T} {f : α → T} {s2 : MS}
end
end FL.NL

/-! NL42: dicts whose keys are pairs of an int and a bool. -/
namespace FL.NL
open PySem FL
def kfB (p : Int × Bool × Unit) : L2.BK := (p.1, p.2.1)
theorem kfB_inj : ∀ a b, kfB a = kfB b → a = b := fun a b h => by
  obtain ⟨x, y, u⟩ := a
  obtain ⟨z, w, v⟩ := b
  unfold kfB at h
  injection h with h1 h2
  rw [show x = z from h1, show y = w from h2]
def obB (ks : List (Int × Bool × Unit)) (ts : List T) : O := .db (ks.map kfB) ts
abbrev ekB : Int × Bool × Unit → T := eP (aC eI (aC eB aN))
theorem keyB_e (k : Int × Bool × Unit) : keyB (ekB k) = some (kfB k) := rfl
theorem kok_B : KOk ekB obB where
  get := fun ks ts k => by
    show (keyB (ekB k)).map (valP (ks.map kfB) ts) = _
    rw [keyB_e, Option.map_some, valP_map kfB_inj]
  put := fun ks ts k t => by
    show (if (ks.map kfB).length < 16777216 then (keyB (ekB k)).map fun q => O.db (putP (ks.map kfB) ts q t).1 (putP (ks.map kfB) ts q t).2 else none) = _
    rw [List.length_map, keyB_e, Option.map_some, putP_map kfB_inj]; rfl
  tget := fun ks ts k => by
    show (keyB (ekB k)).map (valP (ks.map kfB) ts) = _
    rw [keyB_e, Option.map_some, valP_map kfB_inj]
  dO := fun _ _ => rfl
  dT := fun _ _ => rfl
section
variable {β γ : Type} {Γ Γ1 Γ' : Ctx} {fv : β → T} {e1 e2 : M T} {r : R γ}
theorem ew_disp1Bb {k : Dic (Int × Bool × Unit) β → R γ} (a : Int × Bool × Unit) (h1 : ∀ {γ : Type} (k : (Int × Bool × Unit) → R γ), EW Γ e1 (k a) k ekB Γ1) (b : β) (h2 : ∀ {γ : Type} (k : β → R γ), EW Γ1 e2 (k b) k fv Γ') : EW Γ (disp1B e1 e2) (k [(a, b)]) k (oM obB fv) Γ' := fun β' P K hK ρ hs => by
  obtain ⟨ρ1, r1, hs1⟩ := ew_val h1 hs
  obtain ⟨ρ2, r2, hs2⟩ := ew_val h2 hs1
  have e : disp1B e1 e2 ρ = .ok (.db [kfB a] [fv b]) ρ2 := by
    unfold disp1B
    rw [r1]
    show ((e2 ρ1).bind fun z ρ => match keyB (ekB a) with
      | some k => (.ok (.db [k] [z]) ρ : Res O)
      | none => .bad) = _
    rw [r2, keyB_e a]
    rfl
  rw [e]
  exact hK [(a, b)] ρ2 hs2
end
theorem ew_lenSO {γ : Type} {Γ : Ctx} {i : Nat} {k : Int → R γ} (v : Option Str) (h0 : Γ[i]? = some (.is (.fz (eO eS v))) := by rfl) : EW Γ (lenA i) ((unO v).bind fun u => (lenS u).bind k) k eI Γ := fun β' P K hK ρ hs => by
  unfold unO
  cases v with
  | none =>
    have e1 : lenA i ρ = liftO (lenO [eO eS none]) ρ := by unfold lenA; rw [has_e, hs.is h0]
    rw [R.bind_e]; trivial
  | some a =>
    simp only [R.bind_ok]
    exact ew_lenS (i := i) (z := a) (k := k) h0 β' P K hK ρ hs
end FL.NL

/-! NL43: len(d), for k in d, d a dict whose keys are pairs of an int and a bool. -/
namespace FL.NL
open PySem FL
theorem ew_lenMB {β γ : Type} {Γ : Ctx} {i : Nat} {f : β → T} {d : Dic (Int × Bool × Unit) β} {k : Int → R γ} (h0 : Γ[i]? = some (.is (.ow (oM obB f d))) := by rfl) : EW Γ (lenDB i) (k (d.length : Int)) k eI Γ := ew_pure fun ρ hs => by
  have hl : (mK d).length = d.length := by unfold mK; rw [List.length_map]
  have o0 : has i ρ = .o (oM obB f d) := by unfold has; rw [hs.is h0]
  unfold lenDB
  rw [o0]
  show Res.ok (T.int (((mK d).map kfB).length : Nat)) ρ = _
  rw [List.length_map, hl]; rfl
theorem ew_ksB {β γ : Type} {Γ : Ctx} {i : Nat} {fv : β → T} {k : List (Int × Bool × Unit) → R γ} (d : Dic (Int × Bool × Unit) β) (h0 : Γ[i]? = some (.is (.ow (oM obB fv d))) := by rfl) : EW Γ (iKsB i) (k (mK d)) k (List.map ekB) (Γ.set i (.is (.fz (eM obB fv d)))) := fun β' P K hK ρ hs => by
  have e0 : ρ[i]? = some (.ow (oM obB fv d)) := hs.is h0
  have e : iKsB i ρ = .ok ((mK d).map ekB) (ρ.set i (.fz (eM obB fv d))) := by
    unfold iKsB
    rw [e0]
    show Res.ok (((mK d).map kfB).map keyBT) (ρ.set i (.fz (eM obB fv d))) = _
    rw [List.map_map]
    congr 1
  rw [e]
  exact hK (mK d) (ρ.set i (.fz (eM obB fv d))) (hs.set (p := .is (.fz (eM obB fv d))) rfl i)
/-- d.get(k, None) -/
theorem ew_mg2N {κ α γ : Type} [DecidableEq κ] {ek : κ → T} {ob : List κ → List T → O} {f : α → T} {Γ Γ' Γ'' : Ctx} {i : Nat} {e e2 : M T} {d : Dic κ α} (hk : KOk ek ob) (kk : κ) {k : Option α → R γ} (h0 : IsM ob f d Γ[i]?) (h : ∀ {γ : Type} (k : κ → R γ), EW Γ e (k kk) k ek Γ') (h2 : ∀ {γ : Type} (k : Unit → R γ), EW Γ' e2 (k ()) k eU Γ'') (h1 : IsM ob f d Γ''[i]?) : EW Γ (dg2A i e e2) (k (mGt d kk)) k (eO f) Γ'' := fun β P K hK ρ hs => by
  obtain ⟨ρ1, r1, hs1⟩ := ew_val h hs
  obtain ⟨ρ2, r2, hs2⟩ := ew_val h2 hs1
  have hrun : dg2A i e e2 ρ = .ok (eO f (mGt d kk)) ρ2 := by
    unfold dg2A
    rw [if_pos (dh_of hk h0 hs), r1]
    show ((e2 ρ1).bind _) = _
    rw [r2]
    show (match getH (has i ρ2) (ek kk) with
      | some (some t) => Res.ok t ρ2
      | some none => .ok (eU ()) ρ2
      | _ => .bad) = _
    rw [(IsM.get hk h1 hs2 kk).2]
    cases mGt d kk <;> rfl
  rw [hrun]
  exact hK (mGt d kk) ρ2 hs2
end FL.NL

/-! PD: typed data in order: sorted, min, max. -/
namespace FL.NL
open PySem PySem.W
section
variable {α β : Type}
/-- encoded data, all alike -/
structure Key (f : α → T) (d : α → PyData) (n : Nat) : Prop where
  td : ∀ a, toD (f a) = some (d a)
  al : ∀ a b, alike (d a) (d b) = true
  nn : ∀ a, d a ≠ .none
  dp : ∀ a, (d a).depth ≤ n
  pl : ∀ a, plT (f a) = true
theorem key_I : Key eI PyData.int 0 := ⟨fun _ => rfl, fun _ _ => rfl, fun _ => nofun, fun _ => Nat.le_refl _, fun _ => rfl⟩
theorem toDs_key {f : α → T} {d : α → PyData} (h : ∀ a, toD (f a) = some (d a)) : ∀ xs : List α, toDs (xs.map f) = some (xs.map d)
  | [] => by simp [toDs]
  | x :: xs => by simp only [List.map_cons, toDs, h x, toDs_key h xs]
/-- in what order -/
def kLt (d : α → PyData) (a b : α) : Bool := dataLt (d a) (d b)
theorem kLt_irr {d : α → PyData} (a : α) : kLt d a a = false := PyProof.Rows.lex_irrefl _
theorem kLt_trans {d : α → PyData} {a b c : α} (h : kLt d a b = true) (h2 : kLt d b c = true) : kLt d a c = true := PyProof.Rows.lex_trans _ _ _ h h2
theorem kLt_asy {d : α → PyData} {a b : α} (h : kLt d a b = true) : kLt d b a = false := by
  cases e : kLt d b a with
  | false => rfl
  | true => have := kLt_trans h e; rw [kLt_irr] at this; cases this
theorem kLt_neg {d : α → PyData} {a b c : α} (h : kLt d a b = false) (h2 : kLt d b c = false) : kLt d a c = false := by
  cases e : kLt d a c with
  | false => rfl
  | true => rcases PyProof.Rows.lex_negTrans _ _ _ e with h3 | h3
            · exact absurd (h.symm.trans h3) nofun
            · exact absurd (h2.symm.trans h3) nofun
/-! sorting -/
def kSort (d : α → PyData) (xs : List α) : List α := xs.mergeSort fun a b => !kLt d b a
theorem kSort_perm {d : α → PyData} {xs : List α} : (kSort d xs).Perm xs := List.mergeSort_perm _ _
def Asc (d : α → PyData) (xs : List α) : Prop := xs.Pairwise fun a b => kLt d b a = false
theorem kSort_asc {d : α → PyData} {xs : List α} : Asc d (kSort d xs) := by
  have := List.pairwise_mergeSort (le := fun a b => !kLt d b a) (fun a b c h1 h2 => by
    simp only [Bool.not_eq_true'] at h1 h2 ⊢
    exact kLt_neg h2 h1) (fun a b => by
    cases e : kLt d b a with
    | false => rfl
    | true => simp [kLt_asy e]) xs
  exact this.imp fun h => by simpa using h
theorem toksort {d : α → PyData} {f : α → T} : ∀ xs : List α, srt (dataLe false (Prod.snd : T × PyData → PyData)) ((xs.map f).zip (xs.map d)) = (kSort d xs).map fun a => (f a, d a) := fun xs => by
  rw [srt_eq]
  have e : (xs.map f).zip (xs.map d) = xs.map fun a => (f a, d a) := by
    induction xs with
    | nil => rfl
    | cons x xs ih => simp [ih]
  rw [e, kSort]
  exact (List.map_mergeSort (r := fun a b => !kLt d b a) (s := dataLe false (Prod.snd : T × PyData → PyData)) (f := fun a => (f a, d a)) (l := xs) (fun a _ b _ => rfl)).symm
theorem asAll_map {as : T → R α} {f : α → T} (h : ∀ a, as (f a) = .ok a) : ∀ xs : List α, asAll as (xs.map f) = .ok xs
  | [] => rfl
  | x :: xs => by simp only [List.map_cons, asAll, h x, R.bind_ok, asAll_map h xs]
def atomD (x : PyData) : Bool := match x with
  | .none => false
  | .tuple _ => false
  | _ => true
def tupD (x : PyData) : Bool := match x with
  | .tuple (_ :: _) => true
  | _ => false
theorem sort_ok {f : α → T} {d : α → PyData} {n : Nat} (K : Key f d n) (hn : n ≤ 64) {as : T → R α} (ha : ∀ a, as (f a) = .ok a) {xs : List α} (hs : (∀ a ∈ xs, tupD (d a) = true) ∨ ∀ a ∈ xs, atomD (d a) = true) {t : T} (ht : t = eL f xs ∨ t = eT f xs) : sortR as t = .ok (kSort d xs) := by
  have e0 : sortA [t] = sort1 [eL f xs] := by rcases ht with rfl | rfl <;> rfl
  have e : sort1 [eL f xs] = some (.l ((kSort d xs).map f)) := by
    unfold sort1 eL
    show (match toDs (xs.map f) with
      | some ds => if okSort ds then some (O.l (sortT (xs.map f) ds)) else none
      | none => none) = _
    rw [toDs_key K.td]
    have ok : okSort (xs.map d) = true := by
      unfold okSort
      simp only [Bool.and_eq_true, List.all_eq_true, List.mem_map, decide_eq_true_eq, Bool.or_eq_true]
      refine ⟨⟨?_, ?_⟩, ?_⟩
      · rintro _ ⟨a, _, rfl⟩ _ ⟨b, _, rfl⟩; exact K.al a b
      · rintro _ ⟨a, _, rfl⟩; have := K.dp a; omega
      · rcases hs with h | h
        · left; rintro _ ⟨a, ha, rfl⟩; exact h a ha
        · right; rintro _ ⟨a, ha, rfl⟩; exact h a ha
    simp only [ok, if_true]
    unfold sortT
    rw [toksort, List.map_map]; rfl
  unfold sortR
  rw [e0, e]
  unfold optL
  rw [R.bind_ok, asAll_map ha]
/-! the least, the greatest -/
def kMin (d : α → PyData) (x : α) (xs : List α) : α := xs.foldl (fun a y => if kLt d y a = true then y else a) x
theorem kLt_I {a b : Int} : kLt PyData.int a b = decide (a < b) := dataLt_int a b
end
end FL.NL

/-! PA: powers, quotients of intervals, loops (law-free; lines of MA .. MA4). -/
namespace FL.NL
open PySem
variable {α β σ : Type}
/-! MA: powers, quotients of intervals. -/
theorem forR_fold {body : α → σ → R σ} {g : σ → α → σ} (I : σ → Prop) : ∀ {xs : List α} {s : σ}, I s → (∀ x ∈ xs, ∀ s, I s → body x s = .ok (g s x) ∧ I (g s x)) → forR xs body s = .ok (xs.foldl g s) ∧ I (xs.foldl g s)
  | [], s, h, _ => ⟨rfl, h⟩
  | x :: xs, s, h, hb => by
    obtain ⟨e, h1⟩ := hb x (List.mem_cons_self ..) s h
    have := forR_fold (g := g) I (xs := xs) h1 fun x hx => hb x (List.mem_cons_of_mem _ hx)
    refine ⟨?_, this.2⟩
    show (body x s).bind _ = _
    rw [e, R.bind_ok, this.1]; rfl
theorem whileR_succ {n : Nat} {c : σ → R Bool} {body : σ → R σ} {v : σ} : whileR (n + 1) c body v = (c v).bind fun b => if b = true then (body v).bind fun v => whileR n c body v else .ok v := rfl
theorem whileR_mono {c : σ → R Bool} {body : σ → R σ} : ∀ {n m : Nat} {v w : σ}, whileR n c body v = .ok w → n ≤ m → whileR m c body v = .ok w
  | 0, m, v, w, h, _ => by cases h
  | n + 1, 0, v, w, h, hl => by omega
  | n + 1, m + 1, v, w, h, hl => by
    rw [whileR_succ] at h ⊢
    cases e : c v with
    | bad => rw [e, R.bind_bad] at h; cases h
    | exc x => rw [e, R.bind_exc] at h; cases h
    | dr _ _ => rw [e, R.bind_dr] at h; cases h
    | ok b =>
      rw [e] at h
      simp only [R.bind_ok] at h ⊢
      cases b with
      | false => exact h
      | true =>
        simp only [if_true] at h ⊢
        cases e2 : body v with
        | bad => rw [e2, R.bind_bad] at h; cases h
        | exc x => rw [e2, R.bind_exc] at h; cases h
        | dr _ _ => rw [e2, R.bind_dr] at h; cases h
        | ok v2 =>
          rw [e2] at h
          simp only [R.bind_ok] at h ⊢
          exact whileR_mono h (by omega)
theorem R.All_bind {Q : β → Prop} {r : R α} {k : α → R β} : R.All Q (r.bind k) ↔ R.All (fun a => R.All Q (k a)) r := by
  induction r with
  | bad => rw [R.bind_bad]; exact Iff.rfl
  | exc e => rw [R.bind_exc]; exact Iff.rfl
  | ok a => rw [R.bind_ok]; exact Iff.rfl
  | dr m f ih =>
    rw [R.bind_dr]
    exact ⟨fun h => ⟨h.1, h.2.1, fun v h0 h1 => (ih v).1 (h.2.2 v h0 h1)⟩, fun h => ⟨h.1, h.2.1, fun v h0 h1 => (ih v).2 (h.2.2 v h0 h1)⟩⟩
theorem rg_len {lo : Int} {n : Nat} : (rg lo n).length = n := by simp [rg]
theorem rgR_0 {n : Int} (h0 : 0 ≤ n) (h : n < 4611686018427387904) : rgR 0 n = .ok (rg 0 n.toNat) := by
  unfold rgR b62
  rw [if_pos ⟨⟨by decide, by decide⟩, by omega, h⟩, Int.sub_zero]
theorem rg_succ {lo : Int} {n : Nat} : rg lo (n + 1) = lo :: rg (lo + 1) n := by
  unfold rg
  rw [List.range_succ_eq_map, List.map_cons, List.map_map]
  congr 1
  · simp
  · apply List.map_congr_left
    intro j _
    simp only [Function.comp, Nat.succ_eq_add_one]
    omega
/-- a quotient's numbers -/
def stp (p x : Int) (s : Int × Int) : Int × Int := if x > 0 then (s.1 * p ^ x.toNat, s.2) else (s.1, s.2 * p ^ (-x).toNat)
def nd : List Int → List Int → Int × Int → Int × Int
  | p :: L, x :: X, s => nd L X (stp p x s)
  | _, _, s => s
theorem pw_pos {p : Int} (h : 0 < p) (n : Nat) : 0 < p ^ n := Int.pow_pos h
structure LX (L X : List Int) : Prop where
  len : L.length = X.length
  few : L.length ≤ 8
  pr : ∀ p ∈ L, 0 < p ∧ p < 64
  ex : ∀ x ∈ X, -2500 ≤ x ∧ x ≤ 2500
theorem LX.tl {p x : Int} {L X : List Int} (h : LX (p :: L) (x :: X)) : LX L X := ⟨by simpa using h.len, by have := h.few; simp at this; omega, fun q hq => h.pr q (List.mem_cons_of_mem _ hq), fun q hq => h.ex q (List.mem_cons_of_mem _ hq)⟩
/-! MA2: intervals brought within the first prime. -/
theorem whileR_step {σ : Type} {n : Nat} {c : σ → R Bool} {body : σ → R σ} {v w : σ} (h1 : c v = .ok true) (h2 : body v = .ok w) : whileR (n + 1) c body v = whileR n c body w := by
  rw [whileR_succ, h1, R.bind_ok, if_pos rfl, h2, R.bind_ok]
theorem whileR_stop {σ : Type} {n : Nat} {c : σ → R Bool} {body : σ → R σ} {v : σ} (h1 : c v = .ok false) : whileR (n + 1) c body v = .ok v := by
  rw [whileR_succ, h1, R.bind_ok, if_neg (by decide)]
/-- the numbers are those of the tail times the head's -/
theorem nd_mul : ∀ {L X : List Int} {s : Int × Int}, nd L X s = (s.1 * (nd L X (1, 1)).1, s.2 * (nd L X (1, 1)).2)
  | [], _, s => by simp [nd]
  | _ :: _, [], s => by simp [nd]
  | p :: L, x :: X, s => by
    show nd L X (stp p x s) = (s.1 * (nd L X (stp p x (1, 1))).1, s.2 * (nd L X (stp p x (1, 1))).2)
    rw [nd_mul (s := stp p x s), nd_mul (s := stp p x (1, 1))]
    unfold stp
    split <;> simp [Int.mul_assoc]
def up (x : Int) : Nat := x.toNat
theorem nd_cons {p x : Int} {L X : List Int} : nd (p :: L) (x :: X) (1, 1) = (p ^ x.toNat * (nd L X (1, 1)).1, p ^ (-x).toNat * (nd L X (1, 1)).2) := by
  show nd L X (stp p x (1, 1)) = _
  rw [nd_mul]
  unfold stp
  split
  · rename_i h
    have : (-x).toNat = 0 := by omega
    simp [this]
  · rename_i h
    have : x.toNat = 0 := by omega
    simp [this]
theorem pw_add {P : Int} (a b : Nat) : P ^ (a + b) = P ^ a * P ^ b := Int.pow_add ..
/-! the limits that are drawn -/
def lims : List (List Int) := [[2, 3, 5], [2, 3], [2, 3, 5, 7], [2, 3, 7], [3, 5, 7], [2, 5], [2, 3, 5, 7, 11], [2, 7, 11, 13], [2, 7]]
theorem R.All_nx {α : Type} {Q : α → Prop} {r : R α} : R.All Q r.noX ↔ R.All Q r := by
  induction r with
  | bad => exact Iff.rfl
  | exc e => exact Iff.rfl
  | ok a => exact Iff.rfl
  | dr m f ih => exact ⟨fun h => ⟨h.1, h.2.1, fun v h0 h1 => (ih v).1 (h.2.2 v h0 h1)⟩, fun h => ⟨h.1, h.2.1, fun v h0 h1 => (ih v).2 (h.2.2 v h0 h1)⟩⟩
theorem lims_pr : ∀ L ∈ lims, L.length ≤ 5 ∧ 2 ≤ L.length ∧ ∀ p ∈ L, 2 ≤ p ∧ p < 64 := by decide
theorem cmpR_ok {α β : Type} {e : α → R β} {g : α → β} {xs : List α} (hl : xs.length ≤ 16777216) (h : ∀ x ∈ xs, e x = .ok (g x)) : cmpR xs (fun _ => .ok true) e = .ok (xs.map g) := by
  have key : ∀ xs : List α, (∀ x ∈ xs, e x = .ok (g x)) → cmpGo (fun _ => .ok true) e xs = .ok (xs.map g) := fun xs => by
    induction xs with
    | nil => exact fun _ => rfl
    | cons x xs ih =>
      intro h
      show ((R.ok true).noX.bind _) = _
      rw [R.noX_ok, R.bind_ok, if_pos rfl, h x (List.mem_cons_self ..), R.noX_ok, R.bind_ok, ih fun x hx => h x (List.mem_cons_of_mem _ hx), R.bind_ok]; rfl
  unfold cmpR
  rw [if_pos hl]
  exact key xs h
/-! MA3: the exponents of a quotient. -/
theorem nd_pos : ∀ {L X : List Int}, (∀ p ∈ L, 2 ≤ p) → 0 < (nd L X (1, 1)).1 ∧ 0 < (nd L X (1, 1)).2
  | [], _, _ => by simp [nd]
  | _ :: _, [], _ => by simp [nd]
  | p :: L, x :: X, h => by
    rw [nd_cons]
    have ih := nd_pos (X := X) fun q hq => h q (List.mem_cons_of_mem _ hq)
    have hp := h p (List.mem_cons_self ..)
    exact ⟨Int.mul_pos (pw_pos (by omega) _) ih.1, Int.mul_pos (pw_pos (by omega) _) ih.2⟩
/-! MA4: differences, comparisons; loops of a law. -/
def subL : List Int → List Int → List Int
  | x :: X, y :: Y => (x - y) :: subL X Y
  | _, _ => []
theorem subL_len : ∀ {X Y : List Int}, X.length = Y.length → (subL X Y).length = X.length
  | [], _, _ => rfl
  | _ :: _, [], h => by simp at h
  | x :: X, y :: Y, h => by simp only [subL, List.length_cons]; rw [subL_len (by simpa using h)]
theorem subL_bd {A B : Int} : ∀ {X Y : List Int}, (∀ x ∈ X, -A ≤ x ∧ x ≤ A) → (∀ y ∈ Y, -B ≤ y ∧ y ≤ B) → ∀ z ∈ subL X Y, -(A + B) ≤ z ∧ z ≤ A + B
  | [], _, _, _, z, hz => by simp [subL] at hz
  | _ :: _, [], _, _, z, hz => by simp [subL] at hz
  | x :: X, y :: Y, h1, h2, z, hz => by
    simp only [subL, List.mem_cons] at hz
    have a := h1 x (List.mem_cons_self ..)
    have b := h2 y (List.mem_cons_self ..)
    rcases hz with rfl | hz
    · omega
    · exact subL_bd (fun q hq => h1 q (List.mem_cons_of_mem _ hq)) (fun q hq => h2 q (List.mem_cons_of_mem _ hq)) z hz
/-- the sign of an interval -/
def sg (L X : List Int) : Int := b01 (decide ((nd L X (1, 1)).1 > (nd L X (1, 1)).2)) - b01 (decide ((nd L X (1, 1)).1 < (nd L X (1, 1)).2))
end FL.NL

/-! PS: intervals by size. -/
namespace FL.NL
def nu (L X : List Int) : Int := (nd L X (1, 1)).1
def de (L X : List Int) : Int := (nd L X (1, 1)).2
theorem nu_cons {p x : Int} {L X : List Int} : nu (p :: L) (x :: X) = p ^ x.toNat * nu L X := by unfold nu; rw [nd_cons]
theorem de_cons {p x : Int} {L X : List Int} : de (p :: L) (x :: X) = p ^ (-x).toNat * de L X := by unfold de; rw [nd_cons]
theorem nu_pos {L X : List Int} (h : ∀ p ∈ L, 2 ≤ p) : 0 < nu L X := (nd_pos (X := X) h).1
theorem de_pos {L X : List Int} (h : ∀ p ∈ L, 2 ≤ p) : 0 < de L X := (nd_pos (X := X) h).2
theorem nu_nil {X : List Int} : nu [] X = 1 := by cases X <;> rfl
theorem de_nil {X : List Int} : de [] X = 1 := by cases X <;> rfl
/-- the numbers of a difference -/
theorem nd_sub : ∀ {L X Y : List Int}, X.length = L.length → Y.length = L.length → nu L (subL X Y) * (de L X * nu L Y) = de L (subL X Y) * (nu L X * de L Y)
  | [], X, Y, hx, hy => by simp [nu_nil, de_nil]
  | p :: L, [], Y, hx, hy => by simp at hx
  | p :: L, x :: X, [], hx, hy => by simp at hy
  | p :: L, x :: X, y :: Y, hx, hy => by
    have ih := nd_sub (L := L) (X := X) (Y := Y) (by simpa using hx) (by simpa using hy)
    simp only [subL, nu_cons, de_cons]
    have e : (x - y).toNat + (-x).toNat + y.toNat = (-(x - y)).toNat + x.toNat + (-y).toNat := by omega
    have e2 : p ^ (x - y).toNat * p ^ (-x).toNat * p ^ y.toNat = p ^ (-(x - y)).toNat * p ^ x.toNat * p ^ (-y).toNat := by
      rw [← pw_add, ← pw_add, ← pw_add, ← pw_add, e]
    generalize p ^ (x - y).toNat = a at *
    generalize p ^ (-x).toNat = b at *
    generalize p ^ y.toNat = c at *
    generalize p ^ (-(x - y)).toNat = a' at *
    generalize p ^ x.toNat = b' at *
    generalize p ^ (-y).toNat = c' at *
    generalize nu L (subL X Y) = n1 at *
    generalize de L (subL X Y) = d1 at *
    calc a * n1 * (b * de L X * (c * nu L Y)) = (a * b * c) * (n1 * (de L X * nu L Y)) := by simp only [Int.mul_assoc, Int.mul_left_comm, Int.mul_comm]
      _ = (a' * b' * c') * (d1 * (nu L X * de L Y)) := by rw [e2, ih]
      _ = _ := by simp only [Int.mul_assoc, Int.mul_left_comm, Int.mul_comm]
/-- narrower -/
def lt' (L X Y : List Int) : Bool := decide (nu L X * de L Y < nu L Y * de L X)
theorem sub_lt {L X Y : List Int} (hp : ∀ p ∈ L, 2 ≤ p) (hx : X.length = L.length) (hy : Y.length = L.length) : (nu L (subL X Y) < de L (subL X Y)) ↔ nu L X * de L Y < nu L Y * de L X := by
  have e := nd_sub hx hy
  have a := Int.mul_pos (de_pos (X := X) hp) (nu_pos (X := Y) hp)
  have b := Int.mul_pos (nu_pos (X := X) hp) (de_pos (X := Y) hp)
  have c := nu_pos (X := subL X Y) hp
  have d := de_pos (X := subL X Y) hp
  rw [show nu L Y * de L X = de L X * nu L Y from Int.mul_comm ..]
  generalize de L X * nu L Y = A at *
  generalize nu L X * de L Y = B at *
  generalize nu L (subL X Y) = n at *
  generalize de L (subL X Y) = k at *
  constructor
  · intro h
    by_cases hc : B < A
    · exact hc
    · exfalso
      have h1 : n * A ≤ n * B := Int.mul_le_mul_of_nonneg_left (by omega) (by omega)
      have h2 : n * B < k * B := Int.mul_lt_mul_of_pos_right h b
      omega
  · intro h
    by_cases hc : n < k
    · exact hc
    · exfalso
      have h1 : k * B < k * A := Int.mul_lt_mul_of_pos_left h (by omega)
      have h2 : k * A ≤ n * A := Int.mul_le_mul_of_nonneg_right (by omega) (by omega)
      omega
theorem sub_gt {L X Y : List Int} (hp : ∀ p ∈ L, 2 ≤ p) (hx : X.length = L.length) (hy : Y.length = L.length) : (de L (subL X Y) < nu L (subL X Y)) ↔ nu L Y * de L X < nu L X * de L Y := by
  have e := nd_sub hx hy
  have a := Int.mul_pos (de_pos (X := X) hp) (nu_pos (X := Y) hp)
  have b := Int.mul_pos (nu_pos (X := X) hp) (de_pos (X := Y) hp)
  have c := nu_pos (X := subL X Y) hp
  have d := de_pos (X := subL X Y) hp
  rw [show nu L Y * de L X = de L X * nu L Y from Int.mul_comm ..]
  generalize de L X * nu L Y = A at *
  generalize nu L X * de L Y = B at *
  generalize nu L (subL X Y) = n at *
  generalize de L (subL X Y) = k at *
  constructor
  · intro h
    by_cases hc : A < B
    · exact hc
    · exfalso
      have h1 : k * B ≤ k * A := Int.mul_le_mul_of_nonneg_left (by omega) (by omega)
      have h2 : k * A < n * A := Int.mul_lt_mul_of_pos_right h a
      omega
  · intro h
    by_cases hc : k < n
    · exact hc
    · exfalso
      have h1 : k * A < k * B := Int.mul_lt_mul_of_pos_left h (by omega)
      have h2 : n * A ≤ k * A := Int.mul_le_mul_of_nonneg_right (by omega) (by omega)
      omega
/-! the order -/
section
variable {L X Y Z : List Int}
theorem lt_irr : lt' L X X = false := by simp [lt']
end
/-! sorting by insertion -/
def ins (L x : List Int) : List (List Int) → List (List Int)
  | [] => [x]
  | y :: ys => if lt' L x y = true then x :: y :: ys else y :: ins L x ys
/-- rising -/
def Ris (L : List Int) (xs : List (List Int)) : Prop := xs.Pairwise fun a b => lt' L b a = false
theorem ins_perm {L x : List Int} : ∀ {ys : List (List Int)}, (ins L x ys).Perm (x :: ys)
  | [] => .refl _
  | y :: ys => by
    unfold ins
    split
    · exact .refl _
    · exact (List.Perm.cons y ins_perm).trans (.swap x y ys)
/-- where x goes in a rising list: behind `low` items that are not wider -/
theorem ins_at {L x : List Int} : ∀ {a b : List (List Int)}, (∀ y ∈ a, lt' L x y = false) → (∀ y ∈ b.head?, lt' L x y = true) → ins L x (a ++ b) = a ++ x :: b
  | [], [], _, _ => rfl
  | [], y :: b, _, h => by
    simp only [List.nil_append, ins]
    rw [if_pos (h y (by simp))]
  | y :: a, b, h, h2 => by
    have : lt' L x y = false := h y (List.mem_cons_self ..)
    simp only [List.cons_append, ins, this, Bool.false_eq_true, if_false]
    rw [ins_at (fun z hz => h z (List.mem_cons_of_mem _ hz)) h2]
end FL.NL

/-! PL: loops: the first that fits; common divisors; the least that fits. -/
namespace FL.NL
open PySem
section
variable {α β σ : Type}
theorem gcd_loop : ∀ (k : Nat) (a b : Int), 0 ≤ a → 0 ≤ b → b < 2 ^ k → whileR (2 * k + 1) (fun (st1 : (Int × Int)) => .ok (!decide (st1.2 = (0 : Int)))) (fun (st1 : (Int × Int)) => (modR st1.1 st1.2).bind fun t => .ok (st1.2, t)) (a, b) = .ok ((Int.gcd a b : Nat), 0)
  | 0, a, b, ha, hb, hk => by
    have : b = 0 := by simp at hk; omega
    subst this
    rw [whileR_stop (by simp)]
    congr 2
    simp [Int.gcd_zero_right]; omega
  | k + 1, a, b, ha, hb, hk => by
    by_cases h0 : b = 0
    · subst h0
      rw [whileR_mono (n := 1) (whileR_stop (by simp)) (by omega)]
      congr 2
      simp [Int.gcd_zero_right]; omega
    · have hp : 0 < b := by omega
      have e1 : 2 * (k + 1) + 1 = (2 * k + 1) + 1 + 1 := by omega
      rw [e1, whileR_step (w := (b, a % b)) (by simp [h0]) (by simp [modR_pos hp])]
      have r0 := Int.emod_nonneg a h0
      have r1 := Int.emod_lt_of_pos a hp
      have g1 : Int.gcd b (a % b) = Int.gcd a b := by
          rw [Int.emod_def, Int.gcd_sub_mul_left_right, Int.gcd_comm]
      by_cases h1 : a % b = 0
      · rw [h1, whileR_mono (n := 1) (whileR_stop (by simp)) (by omega)]
        rw [h1, Int.gcd_zero_right] at g1
        congr 2
        omega
      · have hp1 : 0 < a % b := by omega
        rw [whileR_step (w := (a % b, b % (a % b))) (by simp [h1]) (by simp [modR_pos hp1])]
        have s0 := Int.emod_nonneg b h1
        have s1 := Int.emod_lt_of_pos b hp1
        have g2 : Int.gcd (a % b) (b % (a % b)) = Int.gcd b (a % b) := by
          rw [Int.emod_def b, Int.gcd_sub_mul_left_right, Int.gcd_comm]
        have hlt : b % (a % b) < 2 ^ k := by
          rw [Int.pow_succ] at hk
          by_cases hh : 2 * (a % b) ≤ b
          · omega
          · have : b / (a % b) = 1 := by
              have h3 : 1 ≤ b / (a % b) := (Int.le_ediv_iff_mul_le hp1).mpr (by omega)
              have h4 : b / (a % b) < 2 := (Int.ediv_lt_iff_lt_mul hp1).mpr (by omega)
              omega
            have h5 := Int.emod_add_mul_ediv b (a % b)
            rw [this, Int.mul_one] at h5
            omega
        rw [gcd_loop k _ _ (by omega) s0 hlt, g2, g1]
/-- the common divisor, as the program and the laws reckon it -/
theorem gcd_ok {a b : Int} {k : Nat} (hb : b.natAbs < 2 ^ k) (hk : k ≤ 400000) : whileR 1000000 (fun (st1 : (Int × Int)) => .ok (!decide (st1.2 = (0 : Int)))) (fun (st1 : (Int × Int)) => (modR st1.1 st1.2).bind fun t => .ok (st1.2, t)) ((absI a), (absI b)) = .ok ((Int.gcd a b : Nat), 0) := by
  have ea : ∀ x : Int, absI x = (x.natAbs : Int) := fun x => by unfold absI; split <;> omega
  have h2 : ((2 : Int) ^ k) = ((2 ^ k : Nat) : Int) := by rw [Int.natCast_pow]; rfl
  have := gcd_loop k (absI a) (absI b) (by rw [ea]; omega) (by rw [ea]; omega) (by rw [ea, h2]; omega)
  rw [whileR_mono this (by omega), ea, ea]
  congr 2
/-- the least number of rounds -/
theorem rounds_least {m f : Int} (hm : 0 < m) {r : Int} (hr : m ∣ r * f) : m / (Int.gcd m f : Nat) ∣ r := by
  have hg : 0 < Int.gcd m f := Int.gcd_pos_of_ne_zero_left f (by omega)
  obtain ⟨M, hM⟩ : ((Int.gcd m f : Nat) : Int) ∣ m := Int.gcd_dvd_left ..
  obtain ⟨F, hF⟩ : ((Int.gcd m f : Nat) : Int) ∣ f := Int.gcd_dvd_right ..
  generalize hgg : Int.gcd m f = g at *
  have hgp : (0 : Int) < g := by omega
  have e1 : m / (g : Int) = M := by rw [hM]; exact Int.mul_ediv_cancel_left _ (by omega)
  rw [e1]
  have hc : Int.gcd M F = 1 := by
    have : Int.gcd ((g : Int) * M) (g * F) = g * Int.gcd M F := by rw [Int.gcd_mul_left]; simp
    rw [← hM, ← hF, hgg] at this
    exact Nat.eq_of_mul_eq_mul_left (by omega) (by omega)
  have h2 : M ∣ r * F := by
    obtain ⟨k, hk⟩ := hr
    refine ⟨k, Int.eq_of_mul_eq_mul_left (a := g) (by omega) ?_⟩
    calc (g : Int) * (r * F) = r * (g * F) := by rw [Int.mul_left_comm]
      _ = r * f := by rw [← hF]
      _ = m * k := hk
      _ = g * M * k := by rw [← hM]
      _ = g * (M * k) := by rw [Int.mul_assoc]
  have h3 : M.natAbs ∣ r.natAbs * F.natAbs := by rw [← Int.natAbs_mul]; exact Int.natAbs_dvd_natAbs.mpr h2
  exact Int.natAbs_dvd_natAbs.mp (Nat.Coprime.dvd_of_dvd_mul_right hc h3)
theorem mem_rg {lo x : Int} {n : Nat} : x ∈ rg lo n ↔ lo ≤ x ∧ x < lo + n := by
  unfold rg
  simp only [List.mem_map, List.mem_range]
  constructor
  · rintro ⟨k, hk, rfl⟩; omega
  · rintro ⟨h0, h1⟩; exact ⟨(x - lo).toNat, by omega, by omega⟩
end
end FL.NL

/-! PG3: three gaps. -/
namespace FL.NL
/-- an additive function to the rests by m -/
structure Rst (m : Int) (r : Int → Int) : Prop where
  lo : ∀ a, 0 ≤ r a
  hi : ∀ a, r a < m
  zr : r 0 = 0
  ad : ∀ a b, r (a + b) = r a + r b ∨ r (a + b) = r a + r b - m
end FL.NL

/-! PT: tools: comprehensions, counts, sets of notes. -/
namespace FL.NL
open PySem PySem.W
section
variable {α α2 β σ : Type}
theorem rg_pair {a : Int} {n : Nat} : (rg a n).Pairwise (· < ·) := by
  unfold rg
  rw [List.pairwise_map]
  exact List.pairwise_lt_range.imp fun h => by omega
/-! counts of pairs -/
def dst (m a b : Int) : Int := min ((b - a).natAbs : Int) (m - (b - a).natAbs)
/-- rising notes -/
structure NSet (m : Int) (xs : List Int) : Prop where
  up : xs.Pairwise (· < ·)
  bd : ∀ x ∈ xs, 0 ≤ x ∧ x < m
theorem NSet.sub {m : Int} {xs : List Int} (h : xs.Sublist (rg 0 m.toNat)) : NSet m xs := ⟨rg_pair.sublist h, fun x hx => by have := mem_rg.mp (h.subset hx); omega⟩
theorem NSet.len {m : Int} {xs : List Int} (h : NSet m xs) : xs.length ≤ m.toNat := by
  have : xs.Sublist (rg 0 m.toNat) := by
    have key : ∀ (n : Nat) (lo : Int) (xs : List Int), xs.Pairwise (· < ·) → (∀ x ∈ xs, lo ≤ x ∧ x < lo + n) → xs.Sublist (rg lo n) := fun n => by
      induction n with
      | zero =>
        intro lo xs _ hb
        cases xs with
        | nil => exact List.nil_sublist _
        | cons x xs => have := hb x (List.mem_cons_self ..); omega
      | succ n ih =>
        intro lo xs hp hb
        rw [rg_succ]
        cases xs with
        | nil => exact List.nil_sublist _
        | cons x xs =>
          obtain ⟨h1, h2⟩ := List.pairwise_cons.mp hp
          have hx := hb x (List.mem_cons_self ..)
          by_cases e : x = lo
          · subst e
            exact List.Sublist.cons₂ _ (ih _ _ h2 fun y hy => by have := h1 y hy; have := hb y (List.mem_cons_of_mem _ hy); omega)
          · refine List.Sublist.cons _ (ih _ _ hp fun y hy => ?_)
            have := hb y hy
            rcases List.mem_cons.mp hy with rfl | hy
            · omega
            · have := h1 y hy; omega
    exact key _ _ _ h.up fun x hx => by have := h.bd x hx; omega
  have := this.length_le
  rwa [rg_len] at this
theorem asc_up {xs : List Int} (h : Asc PyData.int xs) (n : xs.Nodup) : xs.Pairwise (· < ·) := by
  have := List.pairwise_and_iff.mpr ⟨h, n⟩
  refine this.imp fun ⟨h1, h2⟩ => ?_
  rw [kLt_I] at h1
  have := of_decide_eq_false h1
  omega
/-- an image of a set of notes -/
def turn (m s k x : Int) : Int := (s * x + k) % m
def img (m s k : Int) (xs : List Int) : List Int := kSort PyData.int (xs.map (turn m s k))
/-- all images: the moved ones, then the moved ones of it upside down -/
def imgs (m : Int) (xs : List Int) : List (List Int) := (rg 0 m.toNat).map (fun k => img m 1 k xs) ++ (rg 0 m.toNat).map (fun k => img m (-1) k xs)
abbrev dTI : List Int → PyData := fun xs => PyData.tuple (xs.map PyData.int)
/-- the least image -/
def least (m : Int) (xs : List Int) : List Int := match imgs m xs with
  | [] => []
  | y :: ys => kMin dTI y ys
end
end FL.NL

/-! PV: triads of equal steps; texts of signs. -/
namespace FL.NL
open PySem PySem.W
theorem chS_app {x y : Str} : chS (x ++ y) = chS x ++ chS y := by
  unfold chS
  show ((x.cps ++ y.cps).toList.map _) = _
  rw [Array.toList_append, List.map_append]
theorem chS_len {z : Str} : (chS z).length = z.length := by
  unfold chS
  show (z.cps.toList.map _).length = z.cps.size
  simp
theorem lenS_ok {z : Str} (h : z.length ≤ 16777216) : lenS z = .ok z.length := by unfold lenS; rw [if_pos h]
theorem catS_ok {x y : Str} (h : x.length + y.length ≤ 16777216) : catS x y = .ok (x ++ y) := by unfold catS; rw [if_pos h]
theorem emod_lt' {m z : Int} (hm : 0 < m) : 0 ≤ z % m ∧ z % m < m := ⟨Int.emod_nonneg _ (by omega), Int.emod_lt_of_pos _ hm⟩
abbrev Tri := Int × Bool × Unit
structure Shp (m th fi : Int) : Prop where
  m0 : 3 ≤ m
  m1 : m ≤ 60
  t0 : 1 ≤ th
  t1 : th ≤ m - 2
  f0 : th + 1 ≤ fi
  f1 : fi ≤ m - 1
  a : ¬ 2 * th % m = fi
  b : ¬ 2 * fi % m = th
  c : ¬ (th + fi) % m = 0
structure TOk (m : Int) (t : Tri) : Prop where
  r0 : 0 ≤ t.1
  r1 : t.1 < m
abbrev sP : Str := PySem.Str.ofString "P"
abbrev sL : Str := PySem.Str.ofString "L"
abbrev sR : Str := PySem.Str.ofString "R"
def stepOf (th fi : Int) (s : Str) : Int := if decide (s = sL) = true then th else th - fi
def mv (m th fi : Int) (t : Tri) (s : Str) : Tri := if s = sP then (t.1, !t.2.1, ()) else (if t.2.1 = true then (t.1 + stepOf th fi s) % m else (t.1 - stepOf th fi s) % m, !t.2.1, ())
theorem mv_ok {m th fi : Int} (hm : 0 < m) {t : Tri} {s : Str} (h : TOk m t) : TOk m (mv m th fi t s) := by
  unfold mv
  split
  · exact ⟨h.r0, h.r1⟩
  · split
    · exact ⟨(emod_lt' hm).1, (emod_lt' hm).2⟩
    · exact ⟨(emod_lt' hm).1, (emod_lt' hm).2⟩
theorem mv_mv {m th fi : Int} {t : Tri} {s : Str} (h : TOk m t) : mv m th fi (mv m th fi t s) s = t := by
  have e1 : ∀ a b : Int, ((a + b) % m - b) % m = a % m := fun a b => by rw [Int.emod_sub_emod]; congr 1; omega
  have e2 : ∀ a b : Int, ((a - b) % m + b) % m = a % m := fun a b => by rw [Int.emod_add_emod]; congr 1; omega
  have e0 : t.1 % m = t.1 := Int.emod_eq_of_lt h.r0 h.r1
  obtain ⟨r, b, u⟩ := t
  unfold mv
  by_cases hp : s = sP
  · simp [hp]
  · simp only [hp, if_false]
    simp only at e0
    cases b with
    | true => simp only [if_true, Bool.not_true, Bool.false_eq_true, if_false, Bool.not_false, e1, e0]
    | false => simp only [Bool.false_eq_true, if_false, Bool.not_false, if_true, Bool.not_true, e2, e0]
def wk (m th fi : Int) (t : Tri) (ws : List Str) : Tri := ws.foldl (mv m th fi) t
theorem wk_ok {m th fi : Int} (hm : 0 < m) : ∀ {ws : List Str} {t : Tri}, TOk m t → TOk m (wk m th fi t ws)
  | [], t, h => h
  | w :: ws, t, h => wk_ok hm (ws := ws) (mv_ok hm h)
theorem wk_app {m th fi : Int} {t : Tri} {a b : List Str} : wk m th fi t (a ++ b) = wk m th fi (wk m th fi t a) b := by unfold wk; rw [List.foldl_append]
theorem wk_back {m th fi : Int} (hm : 0 < m) : ∀ {ws : List Str} {t : Tri}, TOk m t → wk m th fi (wk m th fi t ws) ws.reverse = t
  | [], t, h => rfl
  | w :: ws, t, h => by
    rw [List.reverse_cons, wk_app]
    show mv m th fi (wk m th fi (wk m th fi (mv m th fi t w) ws) ws.reverse) w = t
    rw [wk_back hm (mv_ok hm h), mv_mv h]
/-- moves: a text of the signs P, L, R -/
structure Mvs (z : Str) (n : Nat) : Prop where
  all : ∀ w ∈ chS z, w = sP ∨ w = sL ∨ w = sR
  len : z.length ≤ n
theorem Mvs.nil {n : Nat} : Mvs (PySem.Str.ofString "") n := ⟨fun w h => (by cases h), Nat.zero_le _⟩
theorem ch_one {w : Str} (h : w = sP ∨ w = sL ∨ w = sR) : chS w = [w] ∧ w.length = 1 := by rcases h with rfl | rfl | rfl <;> decide
theorem Mvs.snoc {z w : Str} {n : Nat} (h : Mvs z n) (hw : w = sP ∨ w = sL ∨ w = sR) : Mvs (z ++ w) (n + 1) := by
  obtain ⟨e, l⟩ := ch_one hw
  refine ⟨fun u hu => ?_, ?_⟩
  · rw [chS_app, e] at hu
    rcases List.mem_append.mp hu with hu | hu
    · exact h.all u hu
    · rw [List.mem_singleton.mp hu]; exact hw
  · have := h.len
    rw [← chS_len, chS_app, e, List.length_append, chS_len]
    simpa using this
theorem Mvs.more {z : Str} {n k : Nat} (h : Mvs z n) (hk : n ≤ k) : Mvs z k := ⟨h.all, Nat.le_trans h.len hk⟩
/-- triads compared -/
theorem eqT_tri (t u : Tri) : eqT (eP (aC eI (aC eB aN)) t) (eP (aC eI (aC eB aN)) u) = some (decide (t = u)) := by
  obtain ⟨r, b, _⟩ := t
  obtain ⟨q, c, _⟩ := u
  show (if SeqAt.shaped (.tuple [.int r, .bool b]) && SeqAt.shaped (.tuple [.int q, .bool c]) then some (PyData.eqv (.tuple [.int r, .bool b]) (.tuple [.int q, .bool c])) else none) = _
  have hs : ∀ (r : Int) (b : Bool), SeqAt.shaped (.tuple [.int r, .bool b]) = true := fun r b => by cases b <;> rfl
  rw [hs, hs]
  simp only [Bool.and_self, if_true]
  congr 1
  rw [Bool.eq_iff_iff, decide_eq_true_eq]
  cases b <;> cases c <;> simp [PyData.eqv, PyData.eqvAll]
theorem neR_tri {t u : Tri} : neR (eP (aC eI (aC eB aN)) t) (eP (aC eI (aC eB aN)) u) = .ok (!decide (t = u)) := by unfold neR; rw [eqT_tri]
theorem eqR_tri {t u : Tri} : eqR (eP (aC eI (aC eB aN)) t) (eP (aC eI (aC eB aN)) u) = .ok (decide (t = u)) := by unfold eqR; rw [eqT_tri]
end FL.NL

/-! PU: counts of pairs of a set of notes and of the others. -/
namespace FL.NL
open PySem PySem.W
section
variable {α β : Type}
theorem lset_TI {xs : List Int} (h : xs.length ≤ 4000) : (optR (lenSetX (eT eI xs))).bind asI = .ok ((dd xs).length : Nat) := by
  have e : lenSetX (eT eI xs) = some (.int ((dd xs).length : Nat)) := by
    show (match intsT (xs.map eI) with
      | some ns => if ns.length ≤ 4000 then some (T.int ((dd ns).length : Nat)) else none
      | none => none) = _
    rw [NL.intsT_map]
    simp only [h, if_true]
  rw [e]
  unfold optR
  rw [R.bind_ok]; rfl
end
/-- pairs told by one note -/
def row (m d a : Int) (ys : List Int) : Nat := ys.countP fun y => decide (dst m a y = d)
def rows (m d : Int) (xs ys : List Int) : Nat := (xs.map fun a => row m d a ys).sum
end FL.NL

/-! PE: even sets: what they are, and that there is one alone. -/
namespace FL.NL
open PySem PySem.W
/-! ### floors -/
theorem fl_per {n Y q : Int} (hn : 0 < n) : (Y + n * q) / n = Y / n + q := Int.add_mul_ediv_left _ _ (by omega)
/-! ### a set, come round -/
def vx (m : Int) (S : List Int) (i : Int) : Int := S.getD (i % (S.length : Int)).toNat 0 + m * (i / (S.length : Int))
def Ev (m : Int) (S : List Int) : Prop := ∀ k : Int, 1 ≤ k → k < S.length → ∀ i j : Int, 0 ≤ i → i < S.length → 0 ≤ j → j < S.length → vx m S (i + k) - vx m S i - (vx m S (j + k) - vx m S j) ≤ 1
section
variable {m : Int} {S : List Int}
theorem vx_per (hn : 0 < S.length) (i q : Int) : vx m S (i + S.length * q) = vx m S i + m * q := by
  unfold vx
  rw [Int.add_mul_emod_self_left, fl_per (by omega), Int.mul_add]; omega
theorem vx_dif (hn : 0 < S.length) (i k : Int) : vx m S (i + k) - vx m S i = vx m S (i % S.length + k) - vx m S (i % S.length) := by
  have e := Int.mul_ediv_add_emod i S.length
  have h1 := vx_per (m := m) hn (i % S.length) (i / S.length)
  have h2 := vx_per (m := m) hn (i % S.length + k) (i / S.length)
  rw [show i % (S.length : Int) + S.length * (i / S.length) = i by omega] at h1
  rw [show i % (S.length : Int) + k + S.length * (i / S.length) = i + k by omega] at h2
  omega
theorem Ev.all (h : Ev m S) (hn : 0 < S.length) {k : Int} (k0 : 1 ≤ k) (k1 : k < S.length) (i j : Int) : vx m S (i + k) - vx m S i - (vx m S (j + k) - vx m S j) ≤ 1 := by
  rw [vx_dif hn i k, vx_dif hn j k]
  have p : (0 : Int) < S.length := by omega
  exact h k k0 k1 _ _ (Int.emod_nonneg _ (by omega)) (Int.emod_lt_of_pos _ p) (Int.emod_nonneg _ (by omega)) (Int.emod_lt_of_pos _ p)
end
/-! ### even sets -/
def es (m n s : Int) : List Int := (rg 0 n.toNat).map fun i => ((m * i + s) / n) % m
end FL.NL

/-! PB: chains whose number of notes is on the way to a fraction have two gaps. -/
namespace FL.NL
open PySem PySem.W
def rs (M s x : Int) : Int := (x * s) % M
theorem rs_rst {M s : Int} (hM : 0 < M) : Rst M (rs M s) := by
  refine ⟨fun a => Int.emod_nonneg _ (by omega), fun a => Int.emod_lt_of_pos _ hM, by simp [rs], fun a b => ?_⟩
  unfold rs
  have e : (a + b) * s = a * s + b * s := Int.add_mul a b s
  rw [e]
  have h1 := Int.mul_ediv_add_emod (a * s) M
  have h2 := Int.mul_ediv_add_emod (b * s) M
  have a0 := Int.emod_nonneg (a * s) (show M ≠ 0 by omega)
  have a1 := Int.emod_lt_of_pos (a * s) hM
  have b0 := Int.emod_nonneg (b * s) (show M ≠ 0 by omega)
  have b1 := Int.emod_lt_of_pos (b * s) hM
  rw [Int.add_emod]
  by_cases c : a * s % M + b * s % M < M
  · left; exact Int.emod_eq_of_lt (by omega) c
  · right
    rw [← Int.sub_emod_right]
    exact Int.emod_eq_of_lt (by omega) (by omega)
/-! ### the list of gaps -/
end FL.NL

/-! PQ: loops that grow; numbers stripped of primes; within, bounded. -/
namespace FL.NL
open PySem PySem.W
section
variable {α β σ : Type}
theorem appR_ok {xs : List α} {x : α} (h : xs.length < 16777216) : appR xs x = .ok (xs ++ [x]) := by unfold appR; rw [if_pos h]
end
/-! ### stripped of a prime -/
/-! ### within, bounded -/
end FL.NL

/-! PC: counts of one sign in a text (lines of FK), in a form that the kernel reckons quickly. -/
namespace FL.C1
open PySem FL FL.NL
noncomputable section
variable {α β γ : Type}
end
end FL.C1
namespace FL.NL
open PySem FL.C1
def sgL : Str := PySem.Str.ofString "L"
def sgS : Str := PySem.Str.ofString "s"
/-- a word of the letters L and s -/
def wdB (z : Str) : Bool := decide (1 ≤ z.cps.toList.length) && decide (z.cps.toList.length ≤ 40) && z.cps.toList.all fun c => decide (c = 76) || decide (c = 115)
structure Wd (z : Str) : Prop where
  l1 : 1 ≤ z.length
  l2 : z.length ≤ 40
  all : ∀ w ∈ chS z, w = sgL ∨ w = sgS
theorem len_cps {z : Str} : z.cps.toList.length = z.length := by rw [← chS_len]; unfold chS; rw [List.length_map]
theorem Wd.of {z : Str} (h : wdB z = true) : Wd z := by
  unfold wdB at h
  rw [Bool.and_eq_true, Bool.and_eq_true, decide_eq_true_eq, decide_eq_true_eq, List.all_eq_true, len_cps] at h
  refine ⟨h.1.1, h.1.2, fun w hw => ?_⟩
  unfold chS at hw
  obtain ⟨c, hc, rfl⟩ := List.mem_map.mp hw
  have := h.2 c hc
  rw [Bool.or_eq_true, decide_eq_true_eq, decide_eq_true_eq] at this
  rcases this with rfl | rfl
  · exact .inl rfl
  · exact .inr rfl
/-! least and greatest -/
theorem enum_len {α : Type} : ∀ {xs : List α} {k : Nat}, (enumL k xs).length = xs.length
  | [], _ => rfl
  | x :: xs, k => by unfold enumL; rw [List.length_cons, List.length_cons, enum_len]
end FL.NL

/-! PX: texts joined and told again, at a place; the order of a walk of triads. -/
namespace FL.NL
open PySem PySem.W
theorem chS_repS {z : Str} {k : Int} : chS (repS z k) = (List.replicate k.toNat (chS z)).flatten := by
  show (((List.replicate k.toNat z.cps.toList).flatten).map _) = _
  rw [List.map_flatten, List.map_replicate]
  rfl
theorem rep_len {α : Type} {ws : List α} : ∀ {n : Nat}, ((List.replicate n ws).flatten).length = n * ws.length
  | 0 => by simp
  | n + 1 => by rw [List.replicate_succ, List.flatten_cons, List.length_append, rep_len, Nat.succ_mul]; omega
theorem rep_mem {α : Type} {ws : List α} {n : Nat} {w : α} (h : w ∈ (List.replicate n ws).flatten) : w ∈ ws := by
  obtain ⟨l, h1, h2⟩ := List.mem_flatten.mp h
  rw [(List.mem_replicate.mp h1).2] at h2
  exact h2
theorem Mvs.rep {z : Str} {n k : Nat} (h : Mvs z n) (hk : z.length * k ≤ 200) : Mvs (repS z k) 200 := by
  refine ⟨fun w hw => ?_, ?_⟩
  · rw [chS_repS] at hw; exact h.all w (rep_mem hw)
  · rw [← chS_len, chS_repS, rep_len, chS_len, Int.toNat_natCast, Nat.mul_comm]; exact hk
/-- the walk again and again -/
def gp (m th fi : Int) (ws : List Str) (n : Nat) (t : Tri) : Tri := wk m th fi t (List.replicate n ws).flatten
theorem gp_0 {m th fi : Int} {ws : List Str} {t : Tri} : gp m th fi ws 0 t = t := rfl
theorem gp_1 {m th fi : Int} {ws : List Str} {n : Nat} {t : Tri} : gp m th fi ws (n + 1) t = wk m th fi (gp m th fi ws n t) ws := by
  unfold gp; rw [List.replicate_succ', List.flatten_append, wk_app]; simp
theorem gp_one {m th fi : Int} {ws : List Str} {t : Tri} : gp m th fi ws 1 t = wk m th fi t ws := by rw [gp_1, gp_0]
def cf (th fi : Int) : List Str → Int
  | [] => 0
  | w :: ws => (if w = sP then 0 else stepOf th fi w) - cf th fi ws
def pf : List Str → Bool
  | [] => true
  | _ :: ws => !pf ws
theorem wk_cf {m th fi : Int} (hm : 0 < m) : ∀ {ws : List Str} {t : Tri}, TOk m t → wk m th fi t ws = (if t.2.1 = true then ((t.1 + cf th fi ws) % m, pf ws, ()) else ((t.1 - cf th fi ws) % m, !pf ws, ()))
  | [], t, h => by
    have e0 : t.1 % m = t.1 := Int.emod_eq_of_lt h.r0 h.r1
    obtain ⟨r, b, u⟩ := t
    simp only at e0
    cases b <;> simp [wk, cf, pf, e0]
  | w :: ws, t, h => by
    show wk m th fi (mv m th fi t w) ws = _
    rw [wk_cf hm (mv_ok hm h)]
    have e1 : ∀ a b c : Int, ((a + b) % m - c) % m = (a + (b - c)) % m := fun a b c => by rw [Int.emod_sub_emod]; congr 1; omega
    have e2 : ∀ a b c : Int, ((a - b) % m + c) % m = (a - (b - c)) % m := fun a b c => by rw [Int.emod_add_emod]; congr 1; omega
    obtain ⟨r, b, u⟩ := t
    have ec : cf th fi (w :: ws) = (if w = sP then 0 else stepOf th fi w) - cf th fi ws := rfl
    have ep : pf (w :: ws) = !pf ws := rfl
    rw [ec, ep]
    unfold mv
    by_cases hp : w = sP
    · simp only [hp, if_true]
      cases b with
      | true => simp only [Bool.not_true, Bool.false_eq_true, if_false, if_true]; rw [show r + (0 - cf th fi ws) = r - cf th fi ws by omega]
      | false => simp only [Bool.not_false, Bool.false_eq_true, if_false, if_true, Bool.not_not]; rw [show r - (0 - cf th fi ws) = r + cf th fi ws by omega]
    · simp only [hp, if_false]
      cases b with
      | true => simp only [if_true, Bool.not_true, Bool.false_eq_true, if_false, e1]
      | false => simp only [Bool.false_eq_true, if_false, Bool.not_false, if_true, Bool.not_not, e2]
abbrev triO : Tri := (0, true, ())
theorem triO_ok {m : Int} (hm : 0 < m) : TOk m triO := ⟨Int.le_refl _, hm⟩
theorem gp_pos {m th fi : Int} (hm : 0 < m) {ws : List Str} (hp : pf ws = true) : ∀ {n : Nat}, gp m th fi ws n triO = ((n * cf th fi ws) % m, true, ())
  | 0 => by simp [gp_0]
  | n + 1 => by
    rw [gp_1, gp_pos hm hp, wk_cf hm ⟨(emod_lt' hm).1, (emod_lt' hm).2⟩]
    simp only [if_true, hp, Int.emod_add_emod, Int.natCast_add, Int.natCast_one, Int.add_mul, Int.one_mul]
theorem gp_small {m th fi : Int} (hm : 2 ≤ m) {ws : List Str} : ∃ n : Nat, 1 ≤ n ∧ (n : Int) ≤ m ∧ gp m th fi ws n triO = triO := by
  cases hp : pf ws with
  | true =>
    refine ⟨m.toNat, by omega, by omega, ?_⟩
    rw [gp_pos (by omega) hp, Int.toNat_of_nonneg (by omega), Int.mul_emod_right]
  | false =>
    refine ⟨2, by omega, hm, ?_⟩
    rw [gp_1, gp_one, wk_cf (by omega) (triO_ok (by omega))]
    simp only [if_true, hp]
    rw [wk_cf (by omega) ⟨(emod_lt' (by omega)).1, (emod_lt' (by omega)).2⟩]
    simp only [Bool.false_eq_true, if_false, hp, Bool.not_false, Int.zero_add, Int.emod_sub_emod, Int.sub_self, Int.zero_emod]
/-- r is the order of the walk -/
structure Ord (m th fi : Int) (ws : List Str) (r : Nat) : Prop where
  r1 : 1 ≤ r
  fx : gp m th fi ws r triO = triO
  mn : ∀ n, 1 ≤ n → n < r → gp m th fi ws n triO ≠ triO
theorem Ord.le {m th fi : Int} (hm : 2 ≤ m) {ws : List Str} {r : Nat} (h : Ord m th fi ws r) : (r : Int) ≤ m := by
  obtain ⟨n, h1, h2, h3⟩ := gp_small (th := th) (fi := fi) hm (ws := ws)
  by_cases e : n < r
  · exact absurd h3 (h.mn n h1 e)
  · omega
/-- step by step -/
def tsq (m th fi : Int) (ws : List Str) (t : Tri) : Nat → Tri
  | 0 => t
  | i + 1 => mv m th fi (tsq m th fi ws t i) (ws.getD (i % ws.length) sP)
def pre (m th fi : Int) (ws : List Str) (t : Tri) (n : Nat) : List Tri := (List.range n).map (tsq m th fi ws t)
end FL.NL

set_option maxHeartbeats 2000000
/-! PBF: triads by layers: what a dict of shortest strings holds. -/
namespace FL.NL
open PySem
/-! ### dicts -/
section
variable {κ α : Type} [DecidableEq κ]
theorem bGt_any {k : κ} : ∀ {d : Dic κ α}, (d.any fun p => decide (p.1 = k)) = (mGt d k).isSome
  | [] => rfl
  | p :: d => by
    rw [List.any_cons, bGt_any (d := d), mGt]
    by_cases h : p.1 = k
    · simp [h]
    · simp [h]
theorem bGt_rp {k x : κ} {v : α} : ∀ {d : Dic κ α}, mGt (mRp d k v) x = if x = k then (mGt d k).map fun _ => v else mGt d x
  | [] => by
    show (none : Option α) = _
    split <;> rfl
  | p :: d => by
    show (if p.1 = x then some (if p.1 = k then v else p.2) else mGt (mRp d k v) x) = _
    rw [bGt_rp (d := d), mGt, mGt]
    by_cases h1 : p.1 = x
    · subst h1
      by_cases h2 : p.1 = k
      · simp [h2]
      · simp [h2]
    · by_cases h2 : x = k
      · subst h2; simp [h1]
      · simp [h1, h2]
theorem bGt_app {k x : κ} {v : α} : ∀ {d : Dic κ α}, mGt d k = none → mGt (d ++ [(k, v)]) x = if x = k then some v else mGt d x
  | [], _ => by
    show (if k = x then some v else none) = _
    by_cases h : k = x
    · subst h; simp
    · have : ¬ x = k := fun e => h e.symm
      simp [h, this]; rfl
  | p :: d, hn => by
    rw [mGt] at hn
    by_cases hp : p.1 = k
    · rw [if_pos hp] at hn; cases hn
    · rw [if_neg hp] at hn
      have ih := bGt_app (x := x) (v := v) hn
      rw [List.cons_append, mGt, mGt, ih]
      by_cases h1 : p.1 = x
      · have : ¬ x = k := fun e => hp (h1.trans e)
        simp [h1, this]
      · simp [h1]
theorem bGt_st {d : Dic κ α} {k x : κ} {v : α} : mGt (mSt d k v) x = if x = k then some v else mGt d x := by
  unfold mSt
  rw [bGt_any]
  cases h : mGt d k with
  | some w =>
    simp only [Option.isSome_some, if_true]
    rw [bGt_rp, h]; rfl
  | none =>
    simp only [Option.isSome_none, Bool.false_eq_true, if_false]
    exact bGt_app h
theorem bK_mem {d : Dic κ α} {k : κ} : k ∈ mK d ↔ (mGt d k).isSome = true := by
  rw [← bGt_any, List.any_eq_true]
  unfold mK
  rw [List.mem_map]
  constructor
  · rintro ⟨p, h1, h2⟩; exact ⟨p, h1, decide_eq_true h2⟩
  · rintro ⟨p, h1, h2⟩; exact ⟨p, h1, of_decide_eq_true h2⟩
theorem bSt_new {d : Dic κ α} {k : κ} {v : α} (h : mGt d k = none) : mSt d k v = d ++ [(k, v)] := by
  unfold mSt
  rw [bGt_any, h]; rfl
theorem bSt_nd {d : Dic κ α} {k : κ} {v : α} (h : mGt d k = none) (n : (mK d).Nodup) : (mK (mSt d k v)).Nodup := by
  rw [bSt_new h]
  unfold mK
  rw [List.map_append, List.nodup_append]
  refine ⟨n, by simp, fun a ha b hb e => ?_⟩
  simp at hb
  subst hb; subst e
  have := bK_mem.mp ha
  rw [h] at this
  cases this
end
/-! ### layers -/
abbrev TD := Dic Tri Str
abbrev sE : Str := PySem.Str.ofString ""
def ltrs : List Str := [sL, sP, sR]
theorem ltrs_plr {s : Str} : s ∈ ltrs ↔ s = sP ∨ s = sL ∨ s = sR := by
  unfold ltrs
  simp only [List.mem_cons, List.not_mem_nil, or_false]
  constructor
  · rintro (h | h | h)
    · exact .inr (.inl h)
    · exact .inl h
    · exact .inr (.inr h)
  · rintro (h | h | h)
    · exact .inr (.inl h)
    · exact .inl h
    · exact .inr (.inr h)
def st1B (m th fi : Int) (x : Tri) (s : Str) (p : TD × List Tri) : TD × List Tri := if (mGt p.1 (mv m th fi x s)).isSome = true then p else (mSt p.1 (mv m th fi x s) ((mGt p.1 x).getD sE ++ s), p.2 ++ [mv m th fi x s])
def stXB (m th fi : Int) (p : TD × List Tri) (x : Tri) : TD × List Tri := ltrs.foldl (fun p s => st1B m th fi x s p) p
def turnB (m th fi : Int) (p : TD × List Tri) : TD × List Tri := p.2.foldl (stXB m th fi) (p.1, [])
/-- all moves that lead somewhere from t0 -/
def Lt (ws : List Str) : Prop := ∀ w ∈ ws, w ∈ ltrs
structure BI (m th fi : Int) (t0 : Tri) (k : Nat) (d : TD) (rim : List Tri) : Prop where
  nd : (mK d).Nodup
  ok : ∀ y z, mGt d y = some z → TOk m y ∧ wk m th fi t0 (chS z) = y ∧ Lt (chS z) ∧ z.length ≤ k
  sh : ∀ y z, mGt d y = some z → ∀ ws, Lt ws → wk m th fi t0 ws = y → z.length ≤ ws.length
  all : ∀ ws, Lt ws → ws.length ≤ k → (mGt d (wk m th fi t0 ws)).isSome = true
  rim : ∀ x, x ∈ rim ↔ ∃ z, mGt d x = some z ∧ z.length = k
/-- half a turn -/
structure PI (m th fi : Int) (d0 : TD) (rim0 : List Tri) (p : TD × List Tri) : Prop where
  nd : (mK p.1).Nodup
  mono : ∀ y z, mGt d0 y = some z → mGt p.1 y = some z
  new : ∀ y z, mGt p.1 y = some z → mGt d0 y = some z ∨ (mGt d0 y = none ∧ y ∈ p.2 ∧ ∃ x s zx, x ∈ rim0 ∧ s ∈ ltrs ∧ mGt d0 x = some zx ∧ y = mv m th fi x s ∧ z = zx ++ s)
  lat : ∀ y ∈ p.2, mGt d0 y = none ∧ (mGt p.1 y).isSome = true
  ln : p.1.length = d0.length + p.2.length
/-- what stays -/
def Keep (p q : TD × List Tri) : Prop := ∀ y z, mGt p.1 y = some z → mGt q.1 y = some z
theorem Keep.refl (p : TD × List Tri) : Keep p p := fun _ _ h => h
theorem Keep.trans {p q r : TD × List Tri} (a : Keep p q) (b : Keep q r) : Keep p r := fun y z h => b y z (a y z h)
theorem Keep.some {p q : TD × List Tri} (a : Keep p q) {y : Tri} (h : (mGt p.1 y).isSome = true) : (mGt q.1 y).isSome = true := by
  obtain ⟨z, e⟩ := Option.isSome_iff_exists.mp h
  rw [a y z e]; rfl
section
variable {m th fi : Int} {t0 : Tri} {d0 : TD} {rim0 : List Tri} {p : TD × List Tri} {x : Tri} {zx s : Str}
theorem st1B_ok (h : PI m th fi d0 rim0 p) (hx : x ∈ rim0) (ex : mGt d0 x = some zx) (hs : s ∈ ltrs) : PI m th fi d0 rim0 (st1B m th fi x s p) ∧ (mGt (st1B m th fi x s p).1 (mv m th fi x s)).isSome = true ∧ Keep p (st1B m th fi x s p) := by
  unfold st1B
  by_cases c : (mGt p.1 (mv m th fi x s)).isSome = true
  · rw [if_pos c]
    exact ⟨h, c, Keep.refl p⟩
  · rw [if_neg c]
    have cn : mGt p.1 (mv m th fi x s) = none := by
      cases e : mGt p.1 (mv m th fi x s) with
      | none => rfl
      | some z => rw [e] at c; exact absurd rfl c
    have c0 : mGt d0 (mv m th fi x s) = none := by
      cases e : mGt d0 (mv m th fi x s) with
      | none => rfl
      | some z => rw [h.mono _ _ e] at cn; cases cn
    have kp : Keep p (mSt p.1 (mv m th fi x s) ((mGt p.1 x).getD sE ++ s), p.2 ++ [mv m th fi x s]) := fun y z e => by
      rw [bGt_st]
      by_cases q : y = mv m th fi x s
      · rw [q, cn] at e; cases e
      · rw [if_neg q]; exact e
    have gx : (mGt p.1 x).getD sE = zx := by rw [h.mono _ _ ex]; rfl
    refine ⟨⟨bSt_nd cn h.nd, fun y z e => kp y z (h.mono y z e), fun y z e => ?_, fun y hy => ?_, ?_⟩, by rw [bGt_st, if_pos rfl]; rfl, kp⟩
    · rw [bGt_st] at e
      by_cases q : y = mv m th fi x s
      · rw [if_pos q] at e
        rw [gx] at e
        have e := Option.some.inj e
        exact .inr ⟨by rw [q]; exact c0, by rw [q]; simp, x, s, zx, hx, hs, ex, q, e.symm⟩
      · rw [if_neg q] at e
        rcases h.new y z e with h1 | ⟨h1, h2, h3⟩
        · exact .inl h1
        · exact .inr ⟨h1, List.mem_append_left _ h2, h3⟩
    · rcases List.mem_append.mp hy with hy | hy
      · exact ⟨(h.lat y hy).1, kp.some (h.lat y hy).2⟩
      · rw [List.mem_singleton] at hy
        subst hy
        exact ⟨c0, by rw [bGt_st, if_pos rfl]; rfl⟩
    · rw [bSt_new cn, List.length_append, List.length_append, h.ln]
      rfl
theorem stXB_fold (hx : x ∈ rim0) (ex : mGt d0 x = some zx) : ∀ (ls : List Str), (∀ s ∈ ls, s ∈ ltrs) → ∀ p, PI m th fi d0 rim0 p → PI m th fi d0 rim0 (ls.foldl (fun p s => st1B m th fi x s p) p) ∧ (∀ s ∈ ls, (mGt (ls.foldl (fun p s => st1B m th fi x s p) p).1 (mv m th fi x s)).isSome = true) ∧ Keep p (ls.foldl (fun p s => st1B m th fi x s p) p)
  | [], _, p, h => ⟨h, (fun s hs => nomatch hs), Keep.refl p⟩
  | s :: ls, hl, p, h => by
    obtain ⟨h1, h2, h3⟩ := st1B_ok h hx ex (hl s List.mem_cons_self)
    obtain ⟨g1, g2, g3⟩ := stXB_fold hx ex ls (fun s hs => hl s (List.mem_cons_of_mem _ hs)) _ h1
    refine ⟨g1, fun s' hs' => ?_, h3.trans g3⟩
    rcases List.mem_cons.mp hs' with rfl | hs'
    · exact g3.some h2
    · exact g2 s' hs'
theorem stXB_ok (h : PI m th fi d0 rim0 p) (hx : x ∈ rim0) (ex : mGt d0 x = some zx) : PI m th fi d0 rim0 (stXB m th fi p x) ∧ (∀ s ∈ ltrs, (mGt (stXB m th fi p x).1 (mv m th fi x s)).isSome = true) ∧ Keep p (stXB m th fi p x) :=
  stXB_fold hx ex ltrs (fun _ h => h) p h
theorem turn_fold (hr : ∀ x ∈ rim0, ∃ zx, mGt d0 x = some zx) : ∀ (xs : List Tri), (∀ x ∈ xs, x ∈ rim0) → ∀ p, PI m th fi d0 rim0 p → PI m th fi d0 rim0 (xs.foldl (stXB m th fi) p) ∧ (∀ x ∈ xs, ∀ s ∈ ltrs, (mGt (xs.foldl (stXB m th fi) p).1 (mv m th fi x s)).isSome = true) ∧ Keep p (xs.foldl (stXB m th fi) p)
  | [], _, p, h => ⟨h, (fun s hs => nomatch hs), Keep.refl p⟩
  | x :: xs, hl, p, h => by
    obtain ⟨zx, ex⟩ := hr x (hl x List.mem_cons_self)
    obtain ⟨h1, h2, h3⟩ := stXB_ok h (hl x List.mem_cons_self) ex
    obtain ⟨g1, g2, g3⟩ := turn_fold hr xs (fun s hs => hl s (List.mem_cons_of_mem _ hs)) _ h1
    refine ⟨g1, fun x' hx' s hs => ?_, h3.trans g3⟩
    rcases List.mem_cons.mp hx' with rfl | hx'
    · exact g3.some (h2 s hs)
    · exact g2 x' hx' s hs
theorem chS_snoc {z s : Str} (hs : s ∈ ltrs) : chS (z ++ s) = chS z ++ [s] ∧ (z ++ s).length = z.length + 1 := by
  obtain ⟨e1, e2⟩ := ch_one (ltrs_plr.mp hs)
  refine ⟨by rw [chS_app, e1], ?_⟩
  rw [← chS_len, chS_app, e1, List.length_append, chS_len]; rfl
def codeT (t : Tri) : Int := 2 * t.1 + if t.2.1 = true then 1 else 0
theorem codeT_inj {a b : Tri} (h : codeT a = codeT b) : a = b := by
  obtain ⟨i, x, u⟩ := a
  obtain ⟨j, y, v⟩ := b
  unfold codeT at h
  cases x <;> cases y <;> simp at h <;> first | (exfalso; omega) | (rw [show i = j by omega])
theorem keys_lenT {d : TD} (hn : (mK d).Nodup) (h : ∀ k ∈ mK d, TOk m k) : d.length ≤ 2 * m.toNat := by
  have hd : ((mK d).map codeT).Nodup := by
    unfold List.Nodup at hn ⊢
    rw [List.pairwise_map]
    exact hn.imp fun h e => h (codeT_inj e)
  have hs : NSet (2 * m) (kSort PyData.int ((mK d).map codeT)) := ⟨asc_up kSort_asc (kSort_perm.nodup_iff.mpr hd), fun x hx => by
    obtain ⟨t, ht, rfl⟩ := List.mem_map.mp (kSort_perm.mem_iff.mp hx)
    obtain ⟨h0, h1⟩ := h t ht
    unfold codeT
    split <;> omega⟩
  have := hs.len
  rw [kSort_perm.length_eq, List.length_map] at this
  unfold mK at this
  rw [List.length_map] at this
  omega
/-- a layer more: the dict has grown by as many, and the rest of the dict's size -/
theorem PI.keys (hm : 0 < m) (hd : ∀ y z, mGt d0 y = some z → TOk m y) (h : PI m th fi d0 rim0 p) : ∀ k ∈ mK p.1, TOk m k := fun k hk => by
  obtain ⟨z, ez⟩ := Option.isSome_iff_exists.mp (bK_mem.mp hk)
  rcases h.new k z ez with h1 | ⟨_, _, x, s, zx, _, _, ex, rfl, _⟩
  · exact hd k z h1
  · exact mv_ok hm (hd x zx ex)
theorem turn_ok (hm : 0 < m) (h0 : TOk m t0) {k : Nat} {d : TD} {rim : List Tri} (h : BI m th fi t0 k d rim) : BI m th fi t0 (k + 1) (turnB m th fi (d, rim)).1 (turnB m th fi (d, rim)).2 ∧ Keep (d, rim) (turnB m th fi (d, rim)) ∧ (turnB m th fi (d, rim)).1.length = d.length + (turnB m th fi (d, rim)).2.length := by
  have hr : ∀ x ∈ rim, ∃ zx, mGt d x = some zx := fun x hx => let ⟨z, e, _⟩ := (h.rim x).mp hx; ⟨z, e⟩
  have P0 : PI m th fi d rim (d, []) := ⟨h.nd, fun _ _ e => e, fun _ _ e => .inl e, (fun y hy => nomatch hy), rfl⟩
  obtain ⟨g1, g2, g3⟩ := turn_fold hr rim (fun _ h => h) _ P0
  have e0 : turnB m th fi (d, rim) = rim.foldl (stXB m th fi) (d, []) := rfl
  rw [← e0] at g1 g2 g3
  have kp : Keep (d, rim) (turnB m th fi (d, rim)) := fun y z e => g3 y z e
  have known : ∀ ws, Lt ws → ws.length ≤ k + 1 → (mGt (turnB m th fi (d, rim)).1 (wk m th fi t0 ws)).isSome = true := fun ws hl hn => by
    by_cases c : ws.length ≤ k
    · exact kp.some (h.all ws hl c)
    · have hne : ws ≠ [] := fun e => by subst e; simp at c
      obtain ⟨us, s, rfl⟩ : ∃ us s, ws = us ++ [s] := ⟨ws.dropLast, ws.getLast hne, (List.dropLast_concat_getLast hne).symm⟩
      rw [List.length_append, List.length_singleton] at hn c
      have hlu : Lt us := fun w hw => hl w (List.mem_append_left _ hw)
      have hs : s ∈ ltrs := hl s (by simp)
      obtain ⟨z, ez⟩ := Option.isSome_iff_exists.mp (h.all us hlu (by omega))
      rw [wk_app]
      show (mGt _ (mv m th fi (wk m th fi t0 us) s)).isSome = true
      by_cases cz : z.length = k
      · exact g2 _ ((h.rim _).mpr ⟨z, ez, cz⟩) s hs
      · obtain ⟨_, w1, w2, w3⟩ := h.ok _ _ ez
        have := h.all (chS z ++ [s]) (fun w hw => by
          rcases List.mem_append.mp hw with hw | hw
          · exact w2 w hw
          · rw [List.mem_singleton] at hw; subst hw; exact hs) (by rw [List.length_append, chS_len, List.length_singleton]; omega)
        rw [wk_app, w1] at this
        exact kp.some this
  refine ⟨⟨g1.nd, fun y z e => ?_, fun y z e ws hl hw => ?_, known, fun x => ⟨fun hx => ?_, fun ⟨z, ez, hz⟩ => ?_⟩⟩, kp, g1.ln⟩
  · rcases g1.new y z e with h1 | ⟨_, _, x, s, zx, hx, hs, ex, rfl, rfl⟩
    · obtain ⟨a, b, c, f⟩ := h.ok y z h1
      exact ⟨a, b, c, by omega⟩
    · obtain ⟨a, b, c, f⟩ := h.ok x zx ex
      obtain ⟨e1, e2⟩ := chS_snoc (z := zx) hs
      refine ⟨mv_ok hm a, by rw [e1, wk_app, b]; rfl, fun w hw => ?_, by omega⟩
      rw [e1] at hw
      rcases List.mem_append.mp hw with hw | hw
      · exact c w hw
      · rw [List.mem_singleton] at hw; subst hw; exact hs
  · rcases g1.new y z e with h1 | ⟨hn, _, x, s, zx, hx, hs, ex, ey, rfl⟩
    · exact h.sh y z h1 ws hl hw
    · obtain ⟨_, e2⟩ := chS_snoc (z := zx) hs
      obtain ⟨a, b, c, f⟩ := h.ok x zx ex
      by_cases cl : ws.length ≤ k
      · have := h.all ws hl cl
        rw [hw, hn] at this
        cases this
      · omega
  · obtain ⟨hn, hsome⟩ := g1.lat x hx
    obtain ⟨z, ez⟩ := Option.isSome_iff_exists.mp hsome
    refine ⟨z, ez, ?_⟩
    rcases g1.new x z ez with h1 | ⟨_, _, x', s, zx, hx', hs, ex, ey, rfl⟩
    · rw [hn] at h1; cases h1
    · obtain ⟨z', ez', hz'⟩ := (h.rim x').mp hx'
      rw [ex] at ez'
      cases ez'
      rw [(chS_snoc (z := zx) hs).2, hz']
  · rcases g1.new x z ez with h1 | ⟨_, hy, _⟩
    · have := (h.ok x z h1).2.2.2
      omega
    · exact hy
theorem start_ok (h0 : TOk m t0) : BI m th fi t0 0 [(t0, sE)] [t0] := by
  have g : ∀ y, mGt ([(t0, sE)] : TD) y = if t0 = y then some sE else none := fun y => rfl
  refine ⟨by simp [mK], fun y z e => ?_, fun y z e ws _ _ => ?_, fun ws _ hn => ?_, fun x => ?_⟩
  · rw [g] at e
    split at e
    · rename_i q
      cases e; subst q
      exact ⟨h0, rfl, (fun w hw => nomatch hw), Nat.le_refl _⟩
    · cases e
  · rw [g] at e
    split at e
    · cases e; exact Nat.zero_le _
    · cases e
  · have : ws = [] := List.length_eq_zero_iff.mp (by omega)
    subst this
    show (mGt ([(t0, sE)] : TD) t0).isSome = true
    rw [g, if_pos rfl]; rfl
  · rw [List.mem_singleton]
    constructor
    · rintro rfl; exact ⟨sE, by rw [g, if_pos rfl], rfl⟩
    · rintro ⟨z, e, _⟩
      rw [g] at e
      split at e
      · rename_i q; exact q.symm
      · cases e
/-- where the last layer is empty, all that can be reached is known -/
theorem BI.closed {k : Nat} {d : TD} (h : BI m th fi t0 k d []) : ∀ (n : Nat) (ws : List Str), ws.length = n → Lt ws → (mGt d (wk m th fi t0 ws)).isSome = true := fun n => by
  induction n with
  | zero => exact fun ws hn hl => h.all ws hl (by omega)
  | succ n ih =>
    intro ws hn hl
    have hne : ws ≠ [] := fun e => by subst e; simp at hn
    obtain ⟨us, s, rfl⟩ : ∃ us s, ws = us ++ [s] := ⟨ws.dropLast, ws.getLast hne, (List.dropLast_concat_getLast hne).symm⟩
    rw [List.length_append, List.length_singleton] at hn
    obtain ⟨z, ez⟩ := Option.isSome_iff_exists.mp (ih us (by omega) fun w hw => hl w (List.mem_append_left _ hw))
    obtain ⟨_, w1, w2, w3⟩ := h.ok _ _ ez
    have hz : z.length ≠ k := fun e => by
      have := (h.rim _).mpr ⟨z, ez, e⟩
      cases this
    have := h.all (chS z ++ [s]) (fun w hw => by
      rcases List.mem_append.mp hw with hw | hw
      · exact w2 w hw
      · exact hl w (List.mem_append_right _ hw)) (by rw [List.length_append, chS_len, List.length_singleton]; omega)
    rw [wk_app, w1] at this
    rw [wk_app]
    exact this
end
theorem dats_tri : ∀ l : List Tri, ∃ ds, toDs (l.map (eP (aC eI (aC eB aN)))) = some ds ∧ PyData.canLayAll0 ds = true ∧ PyData.depthAll ds ≤ 8
  | [] => ⟨[], by simp only [List.map_nil, toDs], by simp [PyData.canLayAll0], by simp [PyData.depthAll]⟩
  | (a, b, u) :: l => by
    obtain ⟨ds, e, c, n⟩ := dats_tri l
    have h1 : toD (eP (aC eI (aC eB aN)) (a, b, u)) = some (.tuple [.int a, .bool b]) := by
      show toD (.tup [.int a, .bl b]) = _
      simp [toD, toDs]
    refine ⟨.tuple [.int a, .bool b] :: ds, by simp only [List.map_cons, toDs, h1, e], ?_, ?_⟩
    · simp [PyData.canLayAll0, PyData.canLay0, c]
    · simp only [PyData.depthAll, PyData.depth]; omega
theorem neR_rim (l : List Tri) : neR (eL (eP (aC eI (aC eB aN))) l) (eL (eP (aC eI (aC eB aN))) ([] : List Tri)) = .ok (!l.isEmpty) := by
  obtain ⟨ds, e2, c2, l2⟩ := dats_tri l
  have s2 : SeqAt.shaped (.list ds) = true := by
    unfold SeqAt.shaped
    have : PyData.canLay0 (.list ds) = true := by simpa only [PyData.canLay0] using c2
    rw [this, Bool.true_and, decide_eq_true_eq]
    simp only [PyData.depth]; omega
  have e : eqT (eL (eP (aC eI (aC eB aN))) l) (eL (eP (aC eI (aC eB aN))) ([] : List Tri)) = some l.isEmpty := by
    have h1 : toD (.lst (l.map (eP (aC eI (aC eB aN))))) = some (.list ds) := by simp only [toD, e2]; rfl
    have h2 : toD (.lst ([] : List T)) = some (.list []) := rfl
    show eqT (.lst (l.map _)) (.lst []) = _
    unfold eqT
    have f1 : flatT (.lst (l.map (eP (aC eI (aC eB aN))))) = none := rfl
    rw [f1]
    simp only [h1, h2]
    rw [s2, show SeqAt.shaped (.list []) = true from rfl]
    simp only [Bool.and_self, if_true]
    cases l with
    | nil =>
      have : ds = [] := by
        have : toDs ([] : List T) = some ds := e2
        simp only [toDs, Option.some.injEq] at this
        exact this.symm
      subst this; rfl
    | cons x xs =>
      cases ds with
      | nil =>
        have h := e2
        simp only [List.map_cons, toDs] at h
        split at h <;> cases h
      | cons y ys => rfl
  unfold neR
  rw [e]
end FL.NL

/-! PHN: rows of integers, their sums, the form (echelon, reduced), that it is one, and which rows are sums of it. -/
namespace Lat
abbrev Row := List Int
def ent (r : Row) (c : Nat) : Int := r.getD c 0
def lss (r o : Row) (q : Int) : Row := List.zipWith (fun a b => a - q * b) r o
def zro (w : Nat) : Row := List.replicate w 0
theorem ent_ge {r : Row} {c : Nat} (h : r.length ≤ c) : ent r c = 0 := by unfold ent; rw [List.getD_eq_getElem?_getD, List.getElem?_eq_none h]; rfl
theorem ent_lt {r : Row} {c : Nat} (h : c < r.length) : r[c]? = some (ent r c) := by unfold ent; rw [List.getD_eq_getElem?_getD, List.getElem?_eq_getElem h]; rfl
theorem row_ext {r s : Row} (h : r.length = s.length) (e : ∀ c, ent r c = ent s c) : r = s := by
  apply List.ext_getElem?
  intro i
  by_cases hi : i < r.length
  · rw [ent_lt hi, ent_lt (h ▸ hi), e]
  · rw [List.getElem?_eq_none (by omega), List.getElem?_eq_none (by omega)]
theorem lss_len {r o : Row} {q : Int} (h : r.length = o.length) : (lss r o q).length = r.length := by unfold lss; rw [List.length_zipWith, h]; exact Nat.min_self _
theorem lss_ent {r o : Row} {q : Int} (h : r.length = o.length) (c : Nat) : ent (lss r o q) c = ent r c - q * ent o c := by
  by_cases hc : c < r.length
  · have h1 := ent_lt hc
    have h2 := ent_lt (r := o) (c := c) (by omega)
    have h3 := ent_lt (r := lss r o q) (c := c) (by rw [lss_len h]; exact hc)
    unfold lss at h3
    rw [List.getElem?_zipWith, h1, h2] at h3
    unfold lss
    exact (Option.some.inj h3).symm
  · rw [ent_ge (by rw [lss_len h]; omega), ent_ge (by omega), ent_ge (r := o) (by omega), Int.mul_zero]; rfl
theorem zro_len (w : Nat) : (zro w).length = w := List.length_replicate
theorem zro_ent (w c : Nat) : ent (zro w) c = 0 := by
  by_cases hc : c < w
  · have := ent_lt (r := zro w) (c := c) (by rw [zro_len]; exact hc)
    unfold zro at this
    rw [List.getElem?_replicate, if_pos hc] at this
    unfold zro
    exact (Option.some.inj this).symm
  · exact ent_ge (by rw [zro_len]; omega)
/-- what rows add up to -/
inductive Sp (A : List Row) (w : Nat) : Row → Prop
  | zero : Sp A w (zro w)
  | step {v r : Row} (q : Int) (h : Sp A w v) (hr : r ∈ A) : Sp A w (lss v r q)
def Len (w : Nat) (A : List Row) : Prop := ∀ r ∈ A, r.length = w
variable {w : Nat} {A B F G X : List Row} {r s u v : Row}
theorem Sp.len (hA : Len w A) (h : Sp A w v) : v.length = w := by
  induction h with
  | zero => exact zro_len w
  | step q h hr ih => rw [lss_len (by rw [ih, hA _ hr]), ih]
theorem Sp.cast (h : Sp A w v) (e : v = u) : Sp A w u := e ▸ h
theorem Sp.less (hA : Len w A) (hv : Sp A w v) (hu : Sp A w u) (q : Int) : Sp A w (lss v u q) := by
  have lv := hv.len hA
  induction hu generalizing q with
  | zero =>
    refine hv.cast (row_ext (by rw [lss_len (by rw [lv, zro_len])]) fun c => ?_)
    rw [lss_ent (by rw [lv, zro_len]), zro_ent, Int.mul_zero, Int.sub_zero]
  | @step u' r' q' hu' hr ih =>
    have lu := hu'.len hA
    have lr := hA _ hr
    refine (Sp.step (-(q * q')) (ih q) hr).cast (row_ext ?_ fun c => ?_)
    · rw [lss_len (by rw [lss_len (by omega)]; omega), lss_len (by omega), lss_len (by rw [lss_len (by omega)]; omega)]
    · rw [lss_ent (by rw [lss_len (by omega)]; omega), lss_ent (by omega), lss_ent (by rw [lss_len (by omega)]; omega), lss_ent (by omega)]
      grind
theorem Sp.mem (hA : Len w A) (hr : r ∈ A) : Sp A w r := by
  refine (Sp.step (-1) Sp.zero hr).cast (row_ext ?_ fun c => ?_)
  · rw [lss_len (by rw [zro_len, hA _ hr]), zro_len, hA _ hr]
  · rw [lss_ent (by rw [zro_len, hA _ hr]), zro_ent]; omega
theorem Sp.sub (hB : Len w B) (h : ∀ r ∈ A, Sp B w r) (hv : Sp A w v) : Sp B w v := by
  induction hv with
  | zero => exact Sp.zero
  | step q _ hr ih => exact Sp.less hB ih (h _ hr) q
structure SpE (w : Nat) (A B : List Row) : Prop where
  la : Len w A
  lb : Len w B
  ab : ∀ r ∈ A, Sp B w r
  ba : ∀ r ∈ B, Sp A w r
theorem SpE.refl (h : Len w A) : SpE w A A := ⟨h, h, fun _ hr => Sp.mem h hr, fun _ hr => Sp.mem h hr⟩
theorem SpE.symm (h : SpE w A B) : SpE w B A := ⟨h.lb, h.la, h.ba, h.ab⟩
theorem SpE.iff (h : SpE w A B) : Sp A w v ↔ Sp B w v := ⟨Sp.sub h.lb h.ab, Sp.sub h.la h.ba⟩
theorem SpE.trans {C : List Row} (h : SpE w A B) (k : SpE w B C) : SpE w A C := ⟨h.la, k.lb, fun r hr => k.iff.mp (h.ab r hr), fun r hr => h.iff.mpr (k.ba r hr)⟩
/-! the place of the first entry -/
def piv (r : Row) : Nat := r.findIdx fun x => decide (x ≠ 0)
theorem piv_before {c : Nat} (h : c < piv r) : ent r c = 0 := by
  by_cases hc : c < r.length
  · have := List.not_of_lt_findIdx h
    have e := ent_lt hc
    rw [List.getElem?_eq_getElem hc] at e
    have e := Option.some.inj e
    rw [← e]
    simpa using this
  · exact ent_ge (by omega)
/-- the form: echelon, pivots positive, what stands above a pivot less than it -/
structure HN (w : Nat) (F : List Row) : Prop where
  len : Len w F
  nz : ∀ r ∈ F, piv r < w
  pos : ∀ r ∈ F, 0 < ent r (piv r)
  up : F.Pairwise fun a b => piv a < piv b
  red : F.Pairwise fun a b => 0 ≤ ent a (piv b) ∧ ent a (piv b) < ent b (piv b)
theorem HN.nil : HN w [] := ⟨fun _ h => (by cases h), fun _ h => (by cases h), fun _ h => (by cases h), List.Pairwise.nil, List.Pairwise.nil⟩
theorem HN.tl (h : HN w (r :: F)) : HN w F := ⟨fun s hs => h.len s (List.mem_cons_of_mem _ hs), fun s hs => h.nz s (List.mem_cons_of_mem _ hs), fun s hs => h.pos s (List.mem_cons_of_mem _ hs), (List.pairwise_cons.mp h.up).2, (List.pairwise_cons.mp h.red).2⟩
theorem sp_cons (hA : Len w (r :: F)) (hv : v.length = w) : Sp (r :: F) w v ↔ ∃ q, Sp F w (lss v r q) := by
  have lr := hA r (List.mem_cons_self ..)
  have hF : Len w F := fun s hs => hA s (List.mem_cons_of_mem _ hs)
  constructor
  · intro h
    clear hv
    induction h with
    | zero => exact ⟨0, Sp.zero.cast (row_ext (by rw [lss_len (by rw [zro_len, lr])]) fun c => by rw [lss_ent (by rw [zro_len, lr])]; omega)⟩
    | @step v' s q' hv' hs ih =>
      obtain ⟨q, ih⟩ := ih
      have lv := hv'.len hA
      rcases List.mem_cons.mp hs with rfl | hs
      · refine ⟨q - q', ih.cast (row_ext ?_ fun c => ?_)⟩
        · rw [lss_len (by omega), lss_len (by rw [lss_len (by omega)]; omega), lss_len (by omega)]
        · rw [lss_ent (by omega), lss_ent (by rw [lss_len (by omega)]; omega), lss_ent (by omega)]; grind
      · have ls := hF s hs
        refine ⟨q, (Sp.step q' ih hs).cast (row_ext ?_ fun c => ?_)⟩
        · rw [lss_len (by rw [lss_len (by omega)]; omega), lss_len (by omega), lss_len (by rw [lss_len (by omega)]; omega), lss_len (by omega)]
        · rw [lss_ent (by rw [lss_len (by omega)]; omega), lss_ent (by omega), lss_ent (by rw [lss_len (by omega)]; omega), lss_ent (by omega)]; grind
  · rintro ⟨q, h⟩
    have h2 : Sp (r :: F) w (lss v r q) := Sp.sub hA (fun s hs => Sp.mem hA (List.mem_cons_of_mem _ hs)) h
    refine (Sp.step (-q) h2 (List.mem_cons_self ..)).cast (row_ext ?_ fun c => ?_)
    · rw [lss_len (by rw [lss_len (by omega)]; omega), lss_len (by omega)]
    · rw [lss_ent (by rw [lss_len (by omega)]; omega), lss_ent (by omega)]; grind
theorem sp_zero (hA : Len w F) {p : Nat} (hz : ∀ r ∈ F, ∀ c, c ≤ p → ent r c = 0) (h : Sp F w v) : ∀ c, c ≤ p → ent v c = 0 := by
  induction h with
  | zero => exact fun c _ => zro_ent w c
  | step q hv hr ih =>
    intro c hc
    rw [lss_ent (by rw [hv.len hA, hA _ hr]), ih c hc, hz _ hr c hc]; omega
theorem HN.after (h : HN w (r :: F)) : ∀ s ∈ F, ∀ c, c ≤ piv r → ent s c = 0 := fun s hs c hc => piv_before (Nat.lt_of_le_of_lt hc ((List.pairwise_cons.mp h.up).1 s hs))
theorem HN.first (h : HN w F) (hv : Sp F w v) {p : Nat} (hp : ent v p ≠ 0) (h0 : ∀ c, c < p → ent v c = 0) : ∃ r ∈ F, piv r = p ∧ ent r p ∣ ent v p := by
  induction F generalizing v with
  | nil =>
    have : ∀ {u}, Sp [] w u → ∀ c, ent u c = 0 := fun hu => by
      cases hu with
      | zero => exact zro_ent w
      | step q _ hr => cases hr
    exact absurd (this hv p) hp
  | cons r F ih =>
    have lv := hv.len h.len
    have lr := h.len r (List.mem_cons_self ..)
    obtain ⟨q, hq⟩ := (sp_cons h.len lv).mp hv
    have z := sp_zero h.tl.len h.after hq
    have e : ∀ c, ent (lss v r q) c = ent v c - q * ent r c := fun c => lss_ent (by omega) c
    by_cases q0 : q = 0
    · subst q0
      obtain ⟨s, hs, h1, h2⟩ := ih h.tl hq (by rw [e]; omega) fun c hc => by rw [e, h0 c hc]; omega
      refine ⟨s, List.mem_cons_of_mem _ hs, h1, ?_⟩
      rw [e] at h2
      simpa using h2
    · have hpr := h.pos r (List.mem_cons_self ..)
      have zp := z (piv r) (Nat.le_refl _)
      rw [e] at zp
      have vp : ent v (piv r) ≠ 0 := by
        have : q * ent r (piv r) ≠ 0 := Int.mul_ne_zero q0 (by omega)
        omega
      have : piv r = p := by
        rcases Nat.lt_trichotomy (piv r) p with c | c | c
        · exact absurd (h0 _ c) vp
        · exact c
        · have := z p (by omega)
          rw [e, piv_before c] at this
          omega
      subst this
      exact ⟨r, List.mem_cons_self .., rfl, ⟨q, by grind⟩⟩
/-! which rows are sums -/
end Lat

set_option maxHeartbeats 4000000
/-! PKM (no program): what two rows of three or four entries take to 0, by minors. -/
namespace Lat
theorem gcd_cl {S : Int → Prop} (sub : ∀ x y q, S x → S y → S (x - q * y)) {a b : Int} (ha : S a) (hb : S b) : S ((Int.gcd a b : Nat) : Int) := by
  have neg : ∀ x, S x → S (-x) := fun x h => by
    have := sub x x 2 h h
    rw [show x - 2 * x = -x by omega] at this; exact this
  have nab : ∀ x, S x → S ((x.natAbs : Nat) : Int) := fun x h => by
    rcases Int.natAbs_eq x with e | e
    · rw [← e]; exact h
    · have := neg x h
      rw [show ((x.natAbs : Nat) : Int) = -x by omega]; exact this
  have key : ∀ m n : Nat, S m → S n → S ((Nat.gcd m n : Nat) : Int) := fun m n => by
    induction m, n using Nat.gcd.induction with
    | H0 n => intro _ h; rw [Nat.gcd_zero_left]; exact h
    | H1 m n hm ih =>
      intro h1 h2
      rw [Nat.gcd_rec]
      refine ih ?_ h1
      have := sub n m ((n / m : Nat) : Int) h2 h1
      have e : (n : Int) - ((n / m : Nat) : Int) * m = ((n % m : Nat) : Int) := by
        have := Int.mul_ediv_add_emod (n : Int) (m : Int)
        rw [Int.natCast_ediv, Int.natCast_emod, Int.mul_comm]; omega
      rw [e] at this; exact this
  exact key _ _ (nab a ha) (nab b hb)
end Lat

set_option maxHeartbeats 2000000
/-! PBG: triads by layers: the order of the strings, how many are reached, and the turn as the texts write it. -/
namespace FL.NL
open PySem
/-! ### texts in order -/
def cpl (z : Str) : List Nat := z.cps.toList
theorem cpl_app (x y : Str) : cpl (x ++ y) = cpl x ++ cpl y := by
  show (x.cps ++ y.cps).toList = _
  rw [Array.toList_append]; rfl
theorem cpl_len (z : Str) : (cpl z).length = z.length := by
  unfold cpl
  rw [Array.length_toList]; rfl
theorem lt_app1 : ∀ {a b : List Nat}, a.length = b.length → a < b → ∀ c d : List Nat, a ++ c < b ++ d
  | [], [], _, h, _, _ => absurd h (List.lt_irrefl _)
  | x :: a, y :: b, hl, h, c, d => by
    rw [List.cons_lt_cons_iff] at h
    show x :: (a ++ c) < y :: (b ++ d)
    rw [List.cons_lt_cons_iff]
    rcases h with h | ⟨h1, h2⟩
    · exact .inl h
    · exact .inr ⟨h1, lt_app1 (by simpa using hl) h2 c d⟩
theorem lt_app2 : ∀ (a : List Nat) {c d : List Nat}, c < d → a ++ c < a ++ d
  | [], _, _, h => h
  | x :: a, c, d, h => by
    show x :: (a ++ c) < x :: (a ++ d)
    rw [List.cons_lt_cons_iff]
    exact .inr ⟨rfl, lt_app2 a h⟩
theorem ltl_asy {a b : List Nat} (h : a < b) : ¬ b < a := fun h2 => List.lt_irrefl _ (List.lt_trans h h2)
theorem ltD_str (x y : Str) : ltD PyData.str x y = decide (cpl x < cpl y) := PySem.W.dataLt_str x y
def valB' (d : TD) (x : Tri) : List Nat := cpl ((mGt d x).getD sE)
def csB (d : TD) (q : Tri × Str) : List Nat := valB' d q.1 ++ cpl q.2
def prsB (rim : List Tri) : List (Tri × Str) := rim.flatMap fun x => ltrs.map fun s => (x, s)
theorem prsB_mem {rim : List Tri} {q : Tri × Str} : q ∈ prsB rim ↔ q.1 ∈ rim ∧ q.2 ∈ ltrs := by
  unfold prsB
  rw [List.mem_flatMap]
  constructor
  · rintro ⟨x, hx, h⟩
    obtain ⟨s, hs, rfl⟩ := List.mem_map.mp h
    exact ⟨hx, hs⟩
  · rintro ⟨h1, h2⟩
    exact ⟨q.1, h1, List.mem_map.mpr ⟨q.2, h2, rfl⟩⟩
theorem ltrs_srt : ltrs.Pairwise fun s s' => cpl s < cpl s' := by
  unfold ltrs
  refine .cons (fun s hs => ?_) (.cons (fun s hs => ?_) (.cons (fun s hs => nomatch hs) .nil))
  · simp only [List.mem_cons, List.not_mem_nil, or_false] at hs
    rcases hs with rfl | rfl <;> decide
  · simp only [List.mem_cons, List.not_mem_nil, or_false] at hs
    subst hs; decide
section
variable {m th fi : Int} {t0 : Tri} {d0 : TD}
theorem turn_prs (d : TD) (rim : List Tri) : turnB m th fi (d, rim) = (prsB rim).foldl (fun p q => st1B m th fi q.1 q.2 p) (d, []) := by
  unfold turnB prsB
  rw [List.foldl_flatMap]
  congr 1
theorem prs_srt {k : Nat} {rim : List Tri} (hl : ∀ x ∈ rim, (valB' d0 x).length = k) (h : rim.Pairwise fun x y => valB' d0 x < valB' d0 y) : (prsB rim).Pairwise fun q q' => csB d0 q < csB d0 q' := by
  unfold prsB
  rw [List.pairwise_flatMap]
  refine ⟨fun x hx => ?_, ?_⟩
  · rw [List.pairwise_map]
    exact ltrs_srt.imp fun h => lt_app2 _ h
  · refine List.Pairwise.imp_of_mem (fun {x y} hx hy hxy => ?_) h
    intro q hq q' hq'
    obtain ⟨s, _, rfl⟩ := List.mem_map.mp hq
    obtain ⟨s', _, rfl⟩ := List.mem_map.mp hq'
    exact lt_app1 (by rw [hl x hx, hl y hy]) hxy _ _
structure PO (m th fi : Int) (d0 : TD) (done todo : List (Tri × Str)) (p : TD × List Tri) : Prop where
  kp : ∀ y z, mGt d0 y = some z → mGt p.1 y = some z
  kn : ∀ q ∈ done, (mGt p.1 (mv m th fi q.1 q.2)).isSome = true
  sr : p.2.Pairwise fun y y' => valB' p.1 y < valB' p.1 y'
  fr : ∀ y ∈ p.2, (mGt p.1 y).isSome = true ∧ ∃ q ∈ done, valB' p.1 y = csB d0 q
  mn : ∀ y ∈ p.2, ∀ q ∈ done ++ todo, mv m th fi q.1 q.2 = y → ¬ csB d0 q < valB' p.1 y
theorem po_step {done todo : List (Tri × Str)} {q : Tri × Str} {p : TD × List Tri} (h : PO m th fi d0 done (q :: todo) p) (hs : (done ++ q :: todo).Pairwise fun q q' => csB d0 q < csB d0 q') {zq : Str} (eq : mGt d0 q.1 = some zq) : PO m th fi d0 (done ++ [q]) todo (st1B m th fi q.1 q.2 p) := by
  have hap : done ++ [q] ++ todo = done ++ q :: todo := by simp
  unfold st1B
  by_cases c : (mGt p.1 (mv m th fi q.1 q.2)).isSome = true
  · rw [if_pos c]
    refine ⟨h.kp, fun q' hq' => ?_, h.sr, fun y hy => ?_, fun y hy q' hq' => h.mn y hy q' (by rw [← hap]; exact hq')⟩
    · rcases List.mem_append.mp hq' with hq' | hq'
      · exact h.kn q' hq'
      · rw [List.mem_singleton] at hq'; subst hq'; exact c
    · obtain ⟨h1, q', hq', e⟩ := h.fr y hy
      exact ⟨h1, q', List.mem_append_left _ hq', e⟩
  · rw [if_neg c]
    have cn : mGt p.1 (mv m th fi q.1 q.2) = none := by
      cases e : mGt p.1 (mv m th fi q.1 q.2) with
      | none => rfl
      | some z => rw [e] at c; exact absurd rfl c
    generalize hy0 : mv m th fi q.1 q.2 = y0 at cn
    have ev : (mGt p.1 q.1).getD sE ++ q.2 = zq ++ q.2 := by rw [h.kp _ _ eq]; rfl
    rw [ev]
    have old : ∀ y, (mGt p.1 y).isSome = true → mGt (mSt p.1 y0 (zq ++ q.2)) y = mGt p.1 y := fun y hy => by
      rw [bGt_st, if_neg fun e => by rw [e, cn] at hy; cases hy]
    have vold : ∀ y, (mGt p.1 y).isSome = true → valB' (mSt p.1 y0 (zq ++ q.2)) y = valB' p.1 y := fun y hy => by unfold valB'; rw [old y hy]
    have vnew : valB' (mSt p.1 y0 (zq ++ q.2)) y0 = csB d0 q := by
      unfold valB' csB valB'
      rw [bGt_st, if_pos rfl, eq, Option.getD_some, Option.getD_some, cpl_app]
    refine ⟨fun y z e => ?_, fun q' hq' => ?_, ?_, fun y hy => ?_, fun y hy q' hq' eq' => ?_⟩
    · have e1 := h.kp y z e
      show mGt (mSt p.1 y0 (zq ++ q.2)) y = some z
      rw [old y (by rw [e1]; rfl)]; exact e1
    · show (mGt (mSt p.1 y0 (zq ++ q.2)) _).isSome = true
      rcases List.mem_append.mp hq' with hq' | hq'
      · rw [old _ (h.kn q' hq')]; exact h.kn q' hq'
      · rw [List.mem_singleton] at hq'
        subst hq'
        rw [hy0, bGt_st, if_pos rfl]; rfl
    · show (p.2 ++ [y0]).Pairwise _
      rw [List.pairwise_append]
      refine ⟨List.Pairwise.imp_of_mem (fun {a b} ha hb hab => ?_) h.sr, .cons (fun _ h => nomatch h) .nil, fun a ha b hb => ?_⟩
      · show valB' (mSt p.1 y0 (zq ++ q.2)) a < valB' (mSt p.1 y0 (zq ++ q.2)) b
        rw [vold a (h.fr a ha).1, vold b (h.fr b hb).1]; exact hab
      · rw [List.mem_singleton] at hb
        subst hb
        show valB' (mSt p.1 b (zq ++ q.2)) a < valB' (mSt p.1 b (zq ++ q.2)) b
        obtain ⟨h1, q', hq', e⟩ := h.fr a ha
        rw [vold a h1, vnew, e]
        rw [List.pairwise_append] at hs
        exact hs.2.2 q' hq' q List.mem_cons_self
    · rcases List.mem_append.mp hy with hy | hy
      · obtain ⟨h1, q', hq', e⟩ := h.fr y hy
        exact ⟨by show (mGt (mSt p.1 y0 (zq ++ q.2)) y).isSome = true; rw [old y h1]; exact h1, q', List.mem_append_left _ hq', (vold y h1).trans e⟩
      · rw [List.mem_singleton] at hy
        subst hy
        exact ⟨by show (mGt (mSt p.1 y (zq ++ q.2)) y).isSome = true; rw [bGt_st, if_pos rfl]; rfl, q, by simp, vnew⟩
    · rw [hap] at hq'
      rcases List.mem_append.mp hy with hy | hy
      · obtain ⟨h1, _⟩ := h.fr y hy
        show ¬ csB d0 q' < valB' (mSt p.1 y0 (zq ++ q.2)) y
        rw [vold y h1]
        exact h.mn y hy q' hq' eq'
      · rw [List.mem_singleton] at hy
        subst hy
        show ¬ csB d0 q' < valB' (mSt p.1 y (zq ++ q.2)) y
        rw [vnew]
        rcases List.mem_append.mp hq' with h1 | h1
        · have := h.kn q' h1
          rw [eq', cn] at this
          cases this
        · rw [List.pairwise_append] at hs
          rcases List.mem_cons.mp h1 with rfl | h1
          · exact List.lt_irrefl _
          · exact ltl_asy ((List.pairwise_cons.mp hs.2.1).1 q' h1)
theorem po_fold : ∀ (todo done : List (Tri × Str)) (p : TD × List Tri), PO m th fi d0 done todo p → (done ++ todo).Pairwise (fun q q' => csB d0 q < csB d0 q') → (∀ q ∈ todo, ∃ z, mGt d0 q.1 = some z) → PO m th fi d0 (done ++ todo) [] (todo.foldl (fun p q => st1B m th fi q.1 q.2 p) p)
  | [], done, p, h, _, _ => by rw [List.append_nil]; exact h
  | q :: todo, done, p, h, hs, hz => by
    obtain ⟨z, ez⟩ := hz q List.mem_cons_self
    have := po_fold todo (done ++ [q]) _ (po_step h hs ez) (by simpa using hs) fun q' h' => hz q' (List.mem_cons_of_mem _ h')
    have e : done ++ [q] ++ todo = done ++ q :: todo := by simp
    rw [e] at this
    exact this
structure BO (m th fi : Int) (d : TD) (rim : List Tri) : Prop where
  srt : rim.Pairwise fun x y => valB' d x < valB' d y
  mn : ∀ y z, mGt d y = some z → ∀ x zx s, mGt d x = some zx → s ∈ ltrs → mv m th fi x s = y → z.length = zx.length + 1 → ¬ cpl (zx ++ s) < cpl z
theorem turn_PI {k : Nat} {d : TD} {rim : List Tri} (h : BI m th fi t0 k d rim) : PI m th fi d rim (turnB m th fi (d, rim)) := by
  have hr : ∀ x ∈ rim, ∃ zx, mGt d x = some zx := fun x hx => let ⟨z, e, _⟩ := (h.rim x).mp hx; ⟨z, e⟩
  have P0 : PI m th fi d rim (d, []) := ⟨h.nd, fun _ _ e => e, fun _ _ e => .inl e, (fun y hy => nomatch hy), rfl⟩
  exact (turn_fold hr rim (fun _ h => h) _ P0).1
theorem turn_ord {k : Nat} {d : TD} {rim : List Tri} (h : BI m th fi t0 k d rim) (o : BO m th fi d rim) : BO m th fi (turnB m th fi (d, rim)).1 (turnB m th fi (d, rim)).2 := by
  have hP := turn_PI h
  have hl : ∀ x ∈ rim, (valB' d x).length = k := fun x hx => by
    obtain ⟨z, e, hz⟩ := (h.rim x).mp hx
    unfold valB'
    rw [e, Option.getD_some, cpl_len]; exact hz
  have hO : PO m th fi d (prsB rim) [] (turnB m th fi (d, rim)) := by
    rw [turn_prs]
    have := po_fold (m := m) (th := th) (fi := fi) (d0 := d) (prsB rim) [] (d, []) ⟨fun _ _ e => e, (fun q hq => nomatch hq), .nil, (fun y hy => nomatch hy), (fun y hy => nomatch hy)⟩ (prs_srt hl o.srt) fun q hq => by
      obtain ⟨z, e, _⟩ := (h.rim q.1).mp (prsB_mem.mp hq).1
      exact ⟨z, e⟩
    exact this
  have len1 : ∀ y z, mGt (turnB m th fi (d, rim)).1 y = some z → mGt d y = some z ∧ z.length ≤ k ∨ y ∈ (turnB m th fi (d, rim)).2 ∧ z.length = k + 1 := fun y z e => by
    rcases hP.new y z e with h1 | ⟨_, hy, x, s, zx, hx, hs, ex, _, rfl⟩
    · exact .inl ⟨h1, (h.ok y z h1).2.2.2⟩
    · obtain ⟨z', ez', hz'⟩ := (h.rim x).mp hx
      rw [ex] at ez'
      cases ez'
      exact .inr ⟨hy, by rw [(chS_snoc (z := zx) hs).2, hz']⟩
  refine ⟨hO.sr, fun y z e x zx s ex hs em hlen => ?_⟩
  rcases len1 y z e with ⟨h1, l1⟩ | ⟨h1, l1⟩
  · rcases len1 x zx ex with ⟨h2, l2⟩ | ⟨_, l2⟩
    · exact o.mn y z h1 x zx s h2 hs em hlen
    · omega
  · rcases len1 x zx ex with ⟨h2, l2⟩ | ⟨_, l2⟩
    · have hx : x ∈ rim := (h.rim x).mpr ⟨zx, h2, by omega⟩
      have := hO.mn y h1 (x, s) (by rw [List.append_nil]; exact prsB_mem.mpr ⟨hx, hs⟩) em
      unfold csB valB' at this
      rw [h2, e, Option.getD_some, Option.getD_some] at this
      rw [cpl_app]; exact this
    · omega
/-! ### the layers in turn -/
def itB (m th fi : Int) (t0 : Tri) : Nat → TD × List Tri
  | 0 => ([(t0, sE)], [t0])
  | n + 1 => turnB m th fi (itB m th fi t0 n)
theorem it_BI (hm : 0 < m) (h0 : TOk m t0) : ∀ n, BI m th fi t0 n (itB m th fi t0 n).1 (itB m th fi t0 n).2
  | 0 => start_ok h0
  | n + 1 => (turn_ok hm h0 (it_BI hm h0 n)).1
theorem it_keep (hm : 0 < m) (h0 : TOk m t0) (n : Nat) : ∀ k, Keep (itB m th fi t0 n) (itB m th fi t0 (n + k))
  | 0 => Keep.refl _
  | k + 1 => (it_keep hm h0 n k).trans (turn_ok hm h0 (it_BI (th := th) (fi := fi) hm h0 (n + k))).2.1
theorem it_same (hm : 0 < m) (h0 : TOk m t0) {n k : Nat} {y : Tri} {z z' : Str} (h : mGt (itB m th fi t0 n).1 y = some z) (h' : mGt (itB m th fi t0 k).1 y = some z') : z = z' := by
  rcases Nat.le_total n k with c | c
  · have := it_keep (th := th) (fi := fi) hm h0 n (k - n) y z h
    rw [show n + (k - n) = k by omega, h'] at this
    exact (Option.some.inj this).symm
  · have := it_keep (th := th) (fi := fi) hm h0 k (n - k) y z' h'
    rw [show k + (n - k) = n by omega, h] at this
    exact Option.some.inj this
theorem it_BO (hm : 0 < m) (h0 : TOk m t0) : ∀ n, BO m th fi (itB m th fi t0 n).1 (itB m th fi t0 n).2
  | 0 => ⟨.cons (fun _ h => nomatch h) .nil, fun y z e x zx s ex hs em hl => by
    have g : ∀ y z, mGt ([(t0, sE)] : TD) y = some z → z = sE := fun y z e => by
      have : (if t0 = y then some sE else none) = some z := e
      split at this
      · exact (Option.some.inj this).symm
      · cases this
    have e1 := g y z e
    have e2 : sE.length = 0 := by decide
    rw [e1, e2] at hl
    omega⟩
  | n + 1 => turn_ord (it_BI hm h0 n) (it_BO hm h0 n)
theorem it_len (hm : 0 < m) (h0 : TOk m t0) (n : Nat) : (itB m th fi t0 n).1.length ≤ 2 * m.toNat := keys_lenT (it_BI (th := th) (fi := fi) hm h0 n).nd fun y hy => by
  obtain ⟨z, ez⟩ := Option.isSome_iff_exists.mp (bK_mem.mp hy)
  exact ((it_BI (th := th) (fi := fi) hm h0 n).ok y z ez).1
end
/-! ### the turn as it is written -/
section
variable {m th fi : Int} {t0 : Tri} {d0 : TD} {rim0 : List Tri} {M : Tri → Str → R Tri}
theorem bw_step (hM : ∀ x s, M x s = .ok (mv m th fi x s)) (hm : 0 < m) (hm1 : m ≤ 60) {k : Nat} (hk : k ≤ 1000) (hd : ∀ y z, mGt d0 y = some z → TOk m y ∧ z.length ≤ k) {x : Tri} (hx : x ∈ rim0) {zx : Str} (ex : mGt d0 x = some zx) {s : Str} (h1 : s ∈ ltrs) {p : TD × List Tri} (h : PI m th fi d0 rim0 p) :
    ((M x s).bind fun more => (if (!(mGt p.1 more).isSome) = true then (mgR p.1 x).bind fun t3 => (catS t3 s).bind fun t4 => (msR p.1 more t4).bind fun known => (appR p.2 more).bind fun later => .ok (known, later) else .ok (p.1, p.2) : R ((Dic (Int × (Bool × Unit)) Str) × (List (Int × (Bool × Unit))))).bind fun st4 => .ok (st4.1, st4.2)) = .ok (st1B m th fi x s p) := by
  rw [hM, R.bind_ok]
  unfold st1B
  by_cases c : (mGt p.1 (mv m th fi x s)).isSome = true
  · rw [if_pos c]
    simp only [c, Bool.not_true, Bool.false_eq_true, if_false, R.bind_ok]
  · rw [if_neg c]
    have c' : (mGt p.1 (mv m th fi x s)).isSome = false := by simpa using c
    simp only [c', Bool.not_false, if_true]
    have gx : mGt p.1 x = some zx := h.mono _ _ ex
    have e1 : mgR p.1 x = .ok zx := by unfold mgR; rw [gx]
    obtain ⟨_, l1⟩ := hd x zx ex
    have l2 := (ch_one (ltrs_plr.mp h1)).2
    have l3 := keys_lenT h.nd (h.keys (by omega) fun y z e => (hd y z e).1)
    have l4 := h.ln
    have e2 : msR p.1 (mv m th fi x s) (zx ++ s) = .ok (mSt p.1 (mv m th fi x s) (zx ++ s)) := by unfold msR; rw [if_pos (by omega)]
    rw [e1, R.bind_ok, catS_ok (by omega), R.bind_ok, e2, R.bind_ok, appR_ok (by omega), R.bind_ok, R.bind_ok, gx]
    rfl
def bodyB (M : Tri → Str → R Tri) (L : List Str) (rim : List Tri) (d : TD) : R (TD × List Tri) := (forR rim (fun (x : (Int × (Bool × Unit))) (st2 : ((Dic (Int × (Bool × Unit)) Str) × (List (Int × (Bool × Unit))))) => (forR L (fun (x2 : Str) (st3 : ((Dic (Int × (Bool × Unit)) Str) × (List (Int × (Bool × Unit))))) => (M x x2).bind fun more => (if (!(mGt st3.1 more).isSome) = true then (mgR st3.1 x).bind fun t3 => (catS t3 x2).bind fun t4 => (msR st3.1 more t4).bind fun known => (appR st3.2 more).bind fun later => .ok (known, later) else .ok (st3.1, st3.2) : R ((Dic (Int × (Bool × Unit)) Str) × (List (Int × (Bool × Unit))))).bind fun st4 => .ok (st4.1, st4.2)) (st2.1, st2.2)).bind fun so => .ok (so.1, so.2)) (d, [])).bind fun so2 => .ok (so2.1, so2.2)
theorem bw_turn (hM : ∀ x s, M x s = .ok (mv m th fi x s)) (hm : 0 < m) (hm1 : m ≤ 60) {k : Nat} (hk : k ≤ 1000) {d : TD} {rim : List Tri} (h : BI m th fi t0 k d rim) : bodyB M ltrs rim d = .ok (turnB m th fi (d, rim)) := by
  unfold bodyB
  have hd : ∀ y z, mGt d y = some z → TOk m y ∧ z.length ≤ k := fun y z e => ⟨(h.ok y z e).1, (h.ok y z e).2.2.2⟩
  have P0 : PI m th fi d rim (d, []) := ⟨h.nd, fun _ _ e => e, fun _ _ e => .inl e, (fun y hy => nomatch hy), rfl⟩
  have := forR_fold (body := fun (x : (Int × (Bool × Unit))) (st2 : ((Dic (Int × (Bool × Unit)) Str) × (List (Int × (Bool × Unit))))) => (forR ltrs (fun (x2 : Str) (st3 : ((Dic (Int × (Bool × Unit)) Str) × (List (Int × (Bool × Unit))))) => (M x x2).bind fun more => (if (!(mGt st3.1 more).isSome) = true then (mgR st3.1 x).bind fun t3 => (catS t3 x2).bind fun t4 => (msR st3.1 more t4).bind fun known => (appR st3.2 more).bind fun later => .ok (known, later) else .ok (st3.1, st3.2) : R ((Dic (Int × (Bool × Unit)) Str) × (List (Int × (Bool × Unit))))).bind fun st4 => .ok (st4.1, st4.2)) (st2.1, st2.2)).bind fun so => .ok (so.1, so.2)) (g := stXB m th fi) (PI m th fi d rim) (xs := rim) (s := (d, [])) P0 fun x hx p hp => by
    obtain ⟨zx, ex, _⟩ := (h.rim x).mp hx
    have := forR_fold (body := fun (x2 : Str) (st3 : ((Dic (Int × (Bool × Unit)) Str) × (List (Int × (Bool × Unit))))) => (M x x2).bind fun more => (if (!(mGt st3.1 more).isSome) = true then (mgR st3.1 x).bind fun t3 => (catS t3 x2).bind fun t4 => (msR st3.1 more t4).bind fun known => (appR st3.2 more).bind fun later => .ok (known, later) else .ok (st3.1, st3.2) : R ((Dic (Int × (Bool × Unit)) Str) × (List (Int × (Bool × Unit))))).bind fun st4 => .ok (st4.1, st4.2)) (g := fun p s => st1B m th fi x s p) (PI m th fi d rim) (xs := ltrs) (s := p) hp fun s hs' p hp => ⟨bw_step hM hm hm1 hk hd hx ex hs' hp, (st1B_ok hp hx ex hs').1⟩
    refine ⟨?_, (stXB_ok hp hx ex).1⟩
    show (forR ltrs _ p).bind _ = _
    rw [this.1, R.bind_ok]
    rfl
  rw [this.1, R.bind_ok]
  rfl
/-- the loop: it stops where the condition c fails, at a layer of the row -/
theorem bw_loop {M : Tri → Str → R Tri} (hM : ∀ x s, M x s = .ok (mv m th fi x s)) (hm : 0 < m) (hm1 : m ≤ 60) (h0 : TOk m t0) {c : TD × List Tri → R Bool} {q : TD × List Tri → Bool} (hc : ∀ p, c p = .ok (q p)) (hq : ∀ d, q (d, []) = false) :
    ∀ (n k f : Nat), 2 * m.toNat ≤ (itB m th fi t0 k).1.length + n → n + k ≤ 900 → n + 2 ≤ f → ∃ K, whileR f c (fun st1 => bodyB M ltrs st1.2 st1.1) (itB m th fi t0 k) = .ok (itB m th fi t0 K) ∧ q (itB m th fi t0 K) = false := fun n => by
  have stop : ∀ (k f : Nat), q (itB m th fi t0 k) = false → 1 ≤ f → ∃ K, whileR f c (fun st1 => bodyB M ltrs st1.2 st1.1) (itB m th fi t0 k) = .ok (itB m th fi t0 K) ∧ q (itB m th fi t0 K) = false := fun k f hk hf => by
    obtain ⟨f, rfl⟩ : ∃ j, f = j + 1 := ⟨f - 1, by omega⟩
    exact ⟨k, whileR_stop (by rw [hc, hk]), hk⟩
  have turn : ∀ k : Nat, k ≤ 1000 → (fun st1 : TD × List Tri => bodyB M ltrs st1.2 st1.1) (itB m th fi t0 k) = .ok (itB m th fi t0 (k + 1)) := fun k hk => bw_turn hM hm hm1 hk (it_BI hm h0 k)
  have grow : ∀ k : Nat, (itB m th fi t0 (k + 1)).1.length = (itB m th fi t0 k).1.length + (itB m th fi t0 (k + 1)).2.length := fun k => (turn_ok hm h0 (it_BI (th := th) (fi := fi) hm h0 k)).2.2
  have pend : ∀ k : Nat, (itB m th fi t0 k).2 = [] → q (itB m th fi t0 k) = false := fun k e => by
    have := hq (itB m th fi t0 k).1
    rw [← e] at this; exact this
  induction n with
  | zero =>
    intro k f hl hk hf
    cases e : q (itB m th fi t0 k) with
    | false => exact stop k f e (by omega)
    | true =>
      obtain ⟨f, rfl⟩ : ∃ j, f = j + 1 := ⟨f - 1, by omega⟩
      rw [whileR_step (by rw [hc, e]) (turn k (by omega))]
      have l := it_len (th := th) (fi := fi) hm h0 (k + 1)
      have g := grow k
      exact stop (k + 1) f (pend _ (List.length_eq_zero_iff.mp (by omega))) (by omega)
  | succ n ih =>
    intro k f hl hk hf
    cases e : q (itB m th fi t0 k) with
    | false => exact stop k f e (by omega)
    | true =>
      obtain ⟨f, rfl⟩ : ∃ j, f = j + 1 := ⟨f - 1, by omega⟩
      rw [whileR_step (by rw [hc, e]) (turn k (by omega))]
      by_cases c2 : (itB m th fi t0 (k + 1)).2 = []
      · exact stop (k + 1) f (pend _ c2) (by omega)
      · have := List.length_pos_iff.mpr c2
        have g := grow k
        exact ih (k + 1) f (by omega) (by omega) (by omega)
end
/-! ### how many are reached -/
section
variable {m th fi : Int}
def Rch (m th fi : Int) (t u : Tri) : Prop := ∃ ws, Lt ws ∧ wk m th fi t ws = u
theorem Rch.refl (t : Tri) : Rch m th fi t t := ⟨[], (fun w h => nomatch h), rfl⟩
theorem Rch.trans {t u v : Tri} (a : Rch m th fi t u) (b : Rch m th fi u v) : Rch m th fi t v := by
  obtain ⟨x, hx, rfl⟩ := a
  obtain ⟨y, hy, rfl⟩ := b
  refine ⟨x ++ y, fun w hw => ?_, wk_app⟩
  rcases List.mem_append.mp hw with h | h
  · exact hx w h
  · exact hy w h
theorem Rch.symm (hm : 0 < m) {t u : Tri} (ht : TOk m t) (a : Rch m th fi t u) : Rch m th fi u t := by
  obtain ⟨x, hx, rfl⟩ := a
  exact ⟨x.reverse, fun w hw => hx w (List.mem_reverse.mp hw), wk_back hm ht⟩
theorem Rch.one {t : Tri} {s : Str} (hs : s ∈ ltrs) : Rch m th fi t (mv m th fi t s) := ⟨[s], fun w hw => by rw [List.mem_singleton] at hw; subst hw; exact hs, rfl⟩
def Sh (m th fi k : Int) : Prop := ∀ r, 0 ≤ r → r < m → Rch m th fi (r, true, ()) ((r + k) % m, true, ())
theorem sh_step (hm : 0 < m) {s : Str} (hs : s ∈ ltrs) (hp : s ≠ sP) : Sh m th fi (stepOf th fi s) := fun r r0 r1 => by
  have h1 := Rch.one (m := m) (th := th) (fi := fi) (t := (r, true, ())) hs
  have h2 := Rch.one (m := m) (th := th) (fi := fi) (t := mv m th fi (r, true, ()) s) (s := sP) (by unfold ltrs; simp)
  have e : mv m th fi (mv m th fi (r, true, ()) s) sP = ((r + stepOf th fi s) % m, true, ()) := by
    have e1 : mv m th fi (r, true, ()) s = ((r + stepOf th fi s) % m, false, ()) := by
      unfold mv
      rw [if_neg hp]; rfl
    rw [e1]
    unfold mv
    rw [if_pos rfl]; rfl
  rw [e] at h2
  exact h1.trans h2
theorem sh_sub (hm : 0 < m) : ∀ x y q : Int, Sh m th fi x → Sh m th fi y → Sh m th fi (x - q * y) := by
  have add : ∀ x y : Int, Sh m th fi x → Sh m th fi y → Sh m th fi (x + y) := fun x y hx hy r r0 r1 => by
    have h1 := hx r r0 r1
    have h2 := hy ((r + x) % m) (emod_lt' hm).1 (emod_lt' hm).2
    rw [Int.emod_add_emod, Int.add_assoc] at h2
    exact h1.trans h2
  have neg : ∀ x : Int, Sh m th fi x → Sh m th fi (-x) := fun x hx r r0 r1 => by
    have h1 := hx ((r + -x) % m) (emod_lt' hm).1 (emod_lt' hm).2
    rw [Int.emod_add_emod, show r + -x + x = r by omega, Int.emod_eq_of_lt r0 r1] at h1
    exact h1.symm hm ⟨(emod_lt' hm).1, (emod_lt' hm).2⟩
  have zero : Sh m th fi 0 := fun r r0 r1 => by
    rw [Int.add_zero, Int.emod_eq_of_lt r0 r1]; exact Rch.refl _
  have nmul : ∀ (n : Nat) (x : Int), Sh m th fi x → Sh m th fi ((n : Int) * x) := fun n x hx => by
    induction n with
    | zero => rw [show ((0 : Nat) : Int) * x = 0 by simp]; exact zero
    | succ n ih =>
      rw [show ((n + 1 : Nat) : Int) * x = (n : Int) * x + x by rw [Int.natCast_add, Int.add_mul]; simp]
      exact add _ _ ih hx
  intro x y q hx hy
  have hq : Sh m th fi (-(q * y)) := by
    rcases Int.natAbs_eq q with e | e
    · rw [e]; exact neg _ (nmul _ _ hy)
    · rw [e, Int.neg_mul, Int.neg_neg]; exact nmul _ _ hy
  rw [show x - q * y = x + -(q * y) by omega]
  exact add _ _ hx hq
theorem sh_m (hm : 0 < m) : Sh m th fi m := fun r r0 r1 => by
  rw [Int.add_emod_right, Int.emod_eq_of_lt r0 r1]; exact Rch.refl _
theorem sh_gcd (hm : 0 < m) : Sh m th fi ((Int.gcd ((Int.gcd th fi : Nat) : Int) m : Nat) : Int) := by
  have h1 : Sh m th fi th := by
    have := sh_step (m := m) (th := th) (fi := fi) hm (s := sL) (by unfold ltrs; simp) (by decide)
    have e : stepOf th fi sL = th := by unfold stepOf; simp
    rwa [e] at this
  have h2 : Sh m th fi (th - fi) := by
    have := sh_step (m := m) (th := th) (fi := fi) hm (s := sR) (by unfold ltrs; simp) (by decide)
    have e : stepOf th fi sR = th - fi := by
      unfold stepOf
      have : ¬ sR = sL := by decide
      simp [this]
    rwa [e] at this
  have h3 : Sh m th fi fi := by
    have := sh_sub hm th (th - fi) 1 h1 h2
    rwa [show th - 1 * (th - fi) = fi by omega] at this
  exact Lat.gcd_cl (sh_sub hm) (Lat.gcd_cl (sh_sub hm) h1 h3) (sh_m hm)
/-- what is reached: the roots of one class, both ways up -/
theorem rch_iff (hm : 0 < m) {g : Int} (hg : g = ((Int.gcd ((Int.gcd th fi : Nat) : Int) m : Nat) : Int)) {t u : Tri} (ht : TOk m t) : Rch m th fi t u ↔ TOk m u ∧ g ∣ u.1 - t.1 := by
  have d1 : g ∣ m := by rw [hg]; exact Int.gcd_dvd_right ..
  have d2 : g ∣ th := by rw [hg]; exact Int.dvd_trans (Int.gcd_dvd_left ..) (Int.gcd_dvd_left ..)
  have d3 : g ∣ fi := by rw [hg]; exact Int.dvd_trans (Int.gcd_dvd_left ..) (Int.gcd_dvd_right ..)
  have red : ∀ a : Int, g ∣ a % m - a := fun a => by
    have := Int.mul_ediv_add_emod a m
    have e : a % m - a = -(m * (a / m)) := by omega
    rw [e]
    exact Int.dvd_neg.mpr (Int.dvd_trans d1 (Int.dvd_mul_right ..))
  constructor
  · rintro ⟨ws, hw, rfl⟩
    refine ⟨wk_ok hm ht, ?_⟩
    clear ht
    induction ws generalizing t with
    | nil => exact ⟨0, by show t.1 - t.1 = g * 0; omega⟩
    | cons w ws ih =>
      have h1 := ih (t := mv m th fi t w) fun s hs => hw s (List.mem_cons_of_mem _ hs)
      have h2 : g ∣ (mv m th fi t w).1 - t.1 := by
        have ds : g ∣ stepOf th fi w := by
          unfold stepOf
          split
          · exact d2
          · exact Int.dvd_sub d2 d3
        unfold mv
        split
        · exact ⟨0, by show t.1 - t.1 = g * 0; omega⟩
        · show g ∣ (if t.2.1 = true then (t.1 + stepOf th fi w) % m else (t.1 - stepOf th fi w) % m) - t.1
          split
          · have := Int.dvd_add (red (t.1 + stepOf th fi w)) ds
            rwa [show (t.1 + stepOf th fi w) % m - (t.1 + stepOf th fi w) + stepOf th fi w = (t.1 + stepOf th fi w) % m - t.1 by omega] at this
          · have := Int.dvd_sub (red (t.1 - stepOf th fi w)) ds
            rwa [show (t.1 - stepOf th fi w) % m - (t.1 - stepOf th fi w) - stepOf th fi w = (t.1 - stepOf th fi w) % m - t.1 by omega] at this
      have := Int.dvd_add h1 h2
      rwa [show (wk m th fi (mv m th fi t w) ws).1 - (mv m th fi t w).1 + ((mv m th fi t w).1 - t.1) = (wk m th fi t (w :: ws)).1 - t.1 by show _ = (wk m th fi (mv m th fi t w) ws).1 - t.1; omega] at this
  · rintro ⟨hu, q, hq⟩
    have flip : ∀ r b, Rch m th fi (r, b, ()) (r, true, ()) ∧ Rch m th fi (r, true, ()) (r, b, ()) := fun r b => by
      cases b with
      | true => exact ⟨Rch.refl _, Rch.refl _⟩
      | false =>
        have h1 := Rch.one (m := m) (th := th) (fi := fi) (t := (r, false, ())) (s := sP) (by unfold ltrs; simp)
        have h2 := Rch.one (m := m) (th := th) (fi := fi) (t := (r, true, ())) (s := sP) (by unfold ltrs; simp)
        have e1 : mv m th fi (r, false, ()) sP = (r, true, ()) := by unfold mv; rw [if_pos rfl]; rfl
        have e2 : mv m th fi (r, true, ()) sP = (r, false, ()) := by unfold mv; rw [if_pos rfl]; rfl
        rw [e1] at h1
        rw [e2] at h2
        exact ⟨h1, h2⟩
    obtain ⟨r, b, x⟩ := t
    obtain ⟨r', b', x'⟩ := u
    have hq : r' - r = g * q := hq
    have hs : Sh m th fi (g * q) := by
      have := sh_sub (th := th) (fi := fi) hm 0 g (-q) (by
        have := sh_sub (th := th) (fi := fi) hm m m 1 (sh_m hm) (sh_m hm)
        rwa [show m - 1 * m = 0 by omega] at this) (by rw [hg]; exact sh_gcd hm)
      rwa [show 0 - -q * g = g * q by rw [Int.neg_mul, Int.mul_comm q g]; omega] at this
    have h1 := hs r ht.1 ht.2
    rw [← hq, show r + (r' - r) = r' by omega, Int.emod_eq_of_lt hu.1 hu.2] at h1
    exact ((flip r b).1.trans h1).trans (flip r' b').2
/-- the roots of a class -/
theorem cls_count (hm : 0 < m) {g : Int} (hg : 0 < g) (hd : g ∣ m) {t : Tri} (ht : TOk m t) {l : List Tri} (hn : l.Nodup) (hl : ∀ u, u ∈ l ↔ TOk m u ∧ g ∣ u.1 - t.1) : (l.length : Int) = 2 * (m / g) := by
  obtain ⟨n, rfl⟩ := hd
  have hn0 : 0 < n := by
    rcases Int.lt_trichotomy n 0 with h | h | h
    · have : g * n < 0 := Int.mul_neg_of_pos_of_neg hg h
      omega
    · subst h; rw [Int.mul_zero] at hm; omega
    · exact h
  have hdiv : g * n / g = n := Int.mul_ediv_cancel_left n (by omega)
  rw [hdiv]
  obtain ⟨ht0, ht1⟩ := ht
  let a := t.1 % g
  have ha : 0 ≤ a ∧ a < g := emod_lt' hg
  have hat : ∃ c, t.1 = a + g * c := ⟨t.1 / g, by have := Int.mul_ediv_add_emod t.1 g; show t.1 = t.1 % g + g * (t.1 / g); omega⟩
  obtain ⟨c, hc⟩ := hat
  let all : List Tri := (rg 0 n.toNat).flatMap fun j => [(a + g * j, true, ()), (a + g * j, false, ())]
  have mem : ∀ u : Tri, u ∈ all ↔ TOk (g * n) u ∧ g ∣ u.1 - t.1 := fun u => by
    show u ∈ (rg 0 n.toNat).flatMap _ ↔ _
    rw [List.mem_flatMap]
    constructor
    · rintro ⟨j, hj, h⟩
      have hj := mem_rg.mp hj
      have e : u.1 = a + g * j := by
        simp only [List.mem_cons, List.not_mem_nil, or_false] at h
        rcases h with rfl | rfl <;> rfl
      have p1 : 0 ≤ g * j := Int.mul_nonneg (by omega) (by omega)
      have p2 : g * j ≤ g * (n - 1) := Int.mul_le_mul_of_nonneg_left (by omega) (by omega)
      rw [Int.mul_sub, Int.mul_one] at p2
      refine ⟨⟨by omega, by omega⟩, j - c, ?_⟩
      rw [Int.mul_sub]; omega
    · rintro ⟨⟨h0, h1⟩, q, hq⟩
      have e : u.1 = a + g * (c + q) := by rw [Int.mul_add]; omega
      have q0 : 0 ≤ c + q := by
        rcases Int.lt_or_le (c + q) 0 with h | h
        · have : g * (c + q) ≤ g * (-1) := Int.mul_le_mul_of_nonneg_left (by omega) (by omega)
          omega
        · exact h
      have q1 : c + q < n := by
        rcases Int.lt_or_le (c + q) n with h | h
        · exact h
        · have : g * n ≤ g * (c + q) := Int.mul_le_mul_of_nonneg_left h (by omega)
          omega
      refine ⟨c + q, mem_rg.mpr (by omega), ?_⟩
      obtain ⟨r, b, x⟩ := u
      have e : r = a + g * (c + q) := e
      rw [e]
      cases b <;> simp
  have nd : all.Nodup := by
    show ((rg 0 n.toNat).flatMap _).Nodup
    unfold List.Nodup
    rw [List.pairwise_flatMap]
    refine ⟨fun j _ => by simp, ?_⟩
    refine List.Pairwise.imp (fun {i j} hij => ?_) ((rg_pair (a := 0) (n := n.toNat)))
    intro u hu v hv e
    subst e
    have e1 : u.1 = a + g * i := by
      simp only [List.mem_cons, List.not_mem_nil, or_false] at hu
      rcases hu with rfl | rfl <;> rfl
    have e2 : u.1 = a + g * j := by
      simp only [List.mem_cons, List.not_mem_nil, or_false] at hv
      rcases hv with rfl | rfl <;> rfl
    have : g * i < g * j := Int.mul_lt_mul_of_pos_left hij hg
    omega
  have pl : l.length = all.length := ((List.perm_ext_iff_of_nodup hn nd).mpr fun u => (hl u).trans (mem u).symm).length_eq
  have la : all.length = 2 * n.toNat := by
    show ((rg 0 n.toNat).flatMap _).length = _
    rw [List.length_flatMap]
    have : ((rg 0 n.toNat).map fun j => ([(a + g * j, true, ()), (a + g * j, false, ())] : List Tri).length) = (rg 0 n.toNat).map fun _ => 2 := rfl
    rw [this]
    have : ∀ xs : List Int, ((xs.map fun _ => 2).sum : Nat) = 2 * xs.length := fun xs => by
      induction xs with
      | nil => rfl
      | cons x xs ih => rw [List.map_cons, List.sum_cons, ih, List.length_cons]; omega
    rw [this, rg_len]
  rw [pl, la]
  omega
end
end FL.NL

namespace TW
open PySem FL
-- is_int: 0:value
def limits.R_is_int : MS :=
  sRet (andV (op1 (isiO .int) (rdA 0)) (notV (op1 (isiO .bl) (rdA 0))))
def limits.F_is_int : Sg := fnF 1 1 limits.R_is_int
-- common: 0:one 1:other
def limits.C_common_1 : M Bool :=
  tst (op2 neO (rdA 1) (rdC (.int 0)))
def limits.B_common_1 : MS :=
  sPar 0 1 (xsCons (asT (rdA 1)) (xsCons (asT (op2 modO (rdA 0) (rdA 1))) (xsNil)))
def limits.R_common : MS :=
  sq (sPar 0 1 (xsCons (asT (calF abs1O (rdCons (rdA 0) (rdNil)))) (xsCons (asT (calF abs1O (rdCons (rdA 1) (rdNil)))) (xsNil))))
  (sq (whl (limits.C_common_1) (limits.B_common_1) 1000000)
  (sRet (rdA 0)))
def limits.F_common : Sg := fnF 2 2 limits.R_common
-- move_of: 0:many 1:third 2:fifth 3:told 4:move 5:step 6:root 7:is_upright
def triads.R_move_of : MS :=
  sq (sAsg (gT (gsCons (gN 6) (gsCons (gN 7) (gsNil)))) (rdA 3))
  (sq (sIf (tst (op2 eqO (rdA 4) (rdC (.str (PySem.Str.ofString "P"))))) (sRet (calF tupO (rdCons (rdA 6) (rdCons (notV (rdA 7)) (rdNil))))) (skip))
  (sq (sSet 5 (asT (ifE (tst (op2 eqO (rdA 4) (rdC (.str (PySem.Str.ofString "L"))))) (rdA 1) (op2 subA (rdA 1) (rdA 2)))))
  (sRet (calF tupO (rdCons (ifE (truth (rdA 7)) (op2 modO (op2 addO (rdA 6) (rdA 5)) (rdA 0)) (op2 modO (op2 subA (rdA 6) (rdA 5)) (rdA 0))) (rdCons (notV (rdA 7)) (rdNil)))))))
def triads.F_move_of : Sg := fnF 8 5 triads.R_move_of
-- need_moves: 0:value 1:sign
def triads.L_need_moves_1 : M T :=
  op2 inO (rdA 1) (rdC (.str (PySem.Str.ofString "PLR")))
def triads.R_need_moves : MS :=
  sIf (orT (notT (truth (op1 (isiO .str) (rdA 0)))) (orT (tst (op2 gtO (lenA 0) (rdC (.int (200))))) (notT (truth (calF all1O (rdCons (frzM (lcM [1] (iSeqA (rdA 0)) (gN 1) (yes) (triads.L_need_moves_1))) (rdNil))))))) (bad) (skip)
def triads.F_need_moves : Sg := fnF 2 1 triads.R_need_moves
-- _law_taken: 0:_law_row 1:_law_many 2:_law_cell 3:_law_found
def lw.R__law_taken : MS :=
  sq (sIf (tst (op2 gtO (ixA 0 (rdC (.int 3))) (rdC (.int 0)))) (sq (sSet 3 (asT (op2 modO (calF intA (rdCons (ixA 0 (rdC (.int 3))) (rdNil))) (rdA 1))))
  (sq (sSetI 0 (rdC (.int 3)) (op2 divA (ixA 0 (rdC (.int 3))) (rdA 1)))
  (sRet (rdA 3)))) (skip))
  (sq (sSetI 0 (rdC (.int 1)) (op2 addO (ixA 0 (rdC (.int 1))) (rdC (.int 1))))
  (sq (sIf (tst (op2 gtO (ixA 0 (rdC (.int 1))) (calF lenO (rdCons (ixA 0 (rdC (.int 0))) (rdNil))))) (sq (sSetI 0 (rdC (.int 2)) (op2 modO (calF intA (rdCons (op2 addO (op2 mulA (ixA 0 (rdC (.int 2))) (rdC (.int 48271))) (rdC (.int 11))) (rdNil))) (rdC (.int 2147483647))))
  (sRet (op2 modO (calF intA (rdCons (op2 divA (ixA 0 (rdC (.int 2))) (rdC (.int 7))) (rdNil))) (rdA 1)))) (skip))
  (sq (sSet 2 (asT (op2 ixO (ixA 0 (rdC (.int 0))) (op2 subA (ixA 0 (rdC (.int 1))) (rdC (.int 1))))))
  (sq (sSetI 0 (rdC (.int 2)) (op2 modO (calF intA (rdCons (op2 addO (op2 addO (op2 mulA (ixA 0 (rdC (.int 2))) (rdC (.int 48271))) (rdA 2)) (rdC (.int 11))) (rdNil))) (rdC (.int 2147483647))))
  (sq (sIf (tst (op2 geO (rdA 2) (op2 powO (rdC (.int 10)) (rdC (.int 18))))) (sSetI 0 (rdC (.int 3)) (op2 divA (rdA 2) (rdA 1))) (skip))
  (sRet (op2 modO (calF intA (rdCons (rdA 2) (rdNil))) (rdA 1))))))))
def lw.F__law_taken : SgM := fnM 4 2 lw.R__law_taken
-- _law_move: 0:_law_many 1:_law_third 2:_law_fifth 3:_law_told 4:_law_move_here 5:_law_step 6:_law_root 7:_law_upright
def lw.R__law_move : MS :=
  sq (sAsg (gT (gsCons (gN 6) (gsCons (gN 7) (gsNil)))) (rdA 3))
  (sq (sIf (tst (op2 eqO (rdA 4) (rdC (.str (PySem.Str.ofString "P"))))) (sRet (calF tupO (rdCons (rdA 6) (rdCons (notV (rdA 7)) (rdNil))))) (skip))
  (sq (sSet 5 (asT (ifE (tst (op2 eqO (rdA 4) (rdC (.str (PySem.Str.ofString "L"))))) (rdA 1) (op2 subA (rdA 1) (rdA 2)))))
  (sRet (ifE (truth (rdA 7)) (calF tupO (rdCons (op2 modO (op2 addO (rdA 6) (rdA 5)) (rdA 0)) (rdCons (rdC (.bl false)) (rdNil)))) (calF tupO (rdCons (op2 modO (op2 subA (rdA 6) (rdA 5)) (rdA 0)) (rdCons (rdC (.bl true)) (rdNil))))))))
def lw.F__law_move : Sg := fnF 8 5 lw.R__law_move
-- is_in: 0:value 1:least 2:most
def limits.R_is_in : MS :=
  sRet (andV (calU limits.F_is_int (rdCons (rdA 0) (rdNil))) (chn leO leO (rdA 1) (rdA 0) (rdA 2)))
def limits.F_is_in : Sg := fnF 3 3 limits.R_is_in
-- walked: 0:many 1:third 2:fifth 3:told 4:moves 5:move
def triads.B_walked_1 : MS :=
  sSet 3 (asT (calU triads.F_move_of (rdCons (rdA 0) (rdCons (rdA 1) (rdCons (rdA 2) (rdCons (rdA 3) (rdCons (rdA 5) (rdNil))))))))
def triads.R_walked : MS :=
  sq (sFor (iSeqA (rdA 4)) (gN 5) (triads.B_walked_1))
  (sRet (rdA 3))
def triads.F_walked : Sg := fnF 6 5 triads.R_walked
-- _law_triads: 0:_law_row 1:_law_turn 2:_law_many 3:_law_third 4:_law_fifth
def lw.B__law_triads_1 : MS :=
  sq (sSet 2 (asT (op2 addO (rdC (.int 3)) (calM lw.F__law_taken 0 (rdCons (rdC (.int 30)) (rdNil))))))
  (sq (sSet 3 (asT (op2 addO (rdC (.int 1)) (calM lw.F__law_taken 0 (rdCons (op2 subA (rdA 2) (rdC (.int 2))) (rdNil))))))
  (sq (sSet 4 (asT (op2 addO (op2 addO (rdA 3) (rdC (.int 1))) (calM lw.F__law_taken 0 (rdCons (op2 subA (op2 subA (rdA 2) (rdC (.int 1))) (rdA 3)) (rdNil))))))
  (sIf (andT (tst (op2 neO (op2 modO (op2 mulA (rdC (.int 2)) (rdA 3)) (rdA 2)) (rdA 4))) (andT (tst (op2 neO (op2 modO (op2 mulA (rdC (.int 2)) (rdA 4)) (rdA 2)) (rdA 3))) (tst (op2 neO (op2 modO (op2 addO (rdA 3) (rdA 4)) (rdA 2)) (rdC (.int 0)))))) (sRet (calF tupO (rdCons (rdA 2) (rdCons (rdA 3) (rdCons (rdA 4) (rdNil)))))) (skip))))
def lw.R__law_triads : MS :=
  sq (sFor (calI rg1 (rdCons (rdC (.int 50)) (rdNil))) (gN 1) (lw.B__law_triads_1))
  (sRet (calF tupO (rdCons (rdC (.int 12)) (rdCons (rdC (.int 4)) (rdCons (rdC (.int 7)) (rdNil))))))
def lw.F__law_triads : SgM := fnM 5 1 lw.R__law_triads
-- need_shape: 0:many 1:third 2:fifth
def triads.R_need_shape : MS :=
  sq (sIf (orT (notT (truth (calU limits.F_is_in (rdCons (rdA 0) (rdCons (rdC (.int 3)) (rdCons (rdC (.int (60))) (rdNil))))))) (orT (notT (truth (calU limits.F_is_in (rdCons (rdA 1) (rdCons (rdC (.int 1)) (rdCons (op2 subA (rdA 0) (rdC (.int 2))) (rdNil))))))) (notT (truth (calU limits.F_is_in (rdCons (rdA 2) (rdCons (op2 addO (rdA 1) (rdC (.int 1))) (rdCons (op2 subA (rdA 0) (rdC (.int 1))) (rdNil))))))))) (bad) (skip))
  (sIf (orT (tst (op2 eqO (op2 modO (op2 mulA (rdC (.int 2)) (rdA 1)) (rdA 0)) (rdA 2))) (orT (tst (op2 eqO (op2 modO (op2 mulA (rdC (.int 2)) (rdA 2)) (rdA 0)) (rdA 1))) (tst (op2 eqO (op2 modO (op2 addO (rdA 1) (rdA 2)) (rdA 0)) (rdC (.int 0)))))) (bad) (skip))
def triads.F_need_shape : Sg := fnF 3 3 triads.R_need_shape
-- need_triad: 0:many 1:value
def triads.R_need_triad : MS :=
  sq (sIf (orT (notT (truth (op1 (isiO .tup) (rdA 1)))) (orT (tst (op2 neO (lenA 1) (rdC (.int 2)))) (notT (truth (calU limits.F_is_in (rdCons (ixA 1 (rdC (.int 0))) (rdCons (rdC (.int 0)) (rdCons (op2 subA (rdA 0) (rdC (.int 1))) (rdNil))))))))) (bad) (skip))
  (sIf (notT (truth (op1 (isiO .bl) (ixA 1 (rdC (.int 1)))))) (bad) (skip))
def triads.F_need_triad : Sg := fnF 2 2 triads.R_need_triad
-- walk: 0:many 1:third 2:fifth 3:told 4:moves
def triads.R_walk : MS :=
  sq (sExpr (calU triads.F_need_shape (rdCons (rdA 0) (rdCons (rdA 1) (rdCons (rdA 2) (rdNil))))))
  (sq (sExpr (calU triads.F_need_triad (rdCons (rdA 0) (rdCons (rdA 3) (rdNil)))))
  (sq (sExpr (calU triads.F_need_moves (rdCons (rdA 4) (rdNil))))
  (sRet (calU triads.F_walked (rdCons (rdA 0) (rdCons (rdA 1) (rdCons (rdA 2) (rdCons (rdA 3) (rdCons (rdA 4) (rdNil))))))))))
def triads.F_walk : Sg := fnF 5 5 triads.R_walk
-- least_moves: 0:many 1:third 2:fifth 3:one 4:other 5:known 6:rim 7:later 8:told 9:move 10:more
def triads.B_least_moves_1 : MS :=
  sq (sSet 10 (asT (calU triads.F_move_of (rdCons (rdA 0) (rdCons (rdA 1) (rdCons (rdA 2) (rdCons (rdA 8) (rdCons (rdA 9) (rdNil)))))))))
  (sIf (tst (dinA true (rdA 10) 5)) (sq (sSetD 5 (rdA 10) (op2 addO (dgA 5 (rdA 8)) (rdA 9)))
  (sExpr (apnM 7 (rdA 10)))) (skip))
def triads.B_least_moves_2 : MS :=
  sFor (iSeqA (rdC (.str (PySem.Str.ofString "LPR")))) (gN 9) (triads.B_least_moves_1)
def triads.C_least_moves_1 : M Bool :=
  andT (tst (dinA true (rdA 4) 5)) (tst (op2 neO (rdA 6) (frzM (calO newL (rdNil)))))
def triads.B_least_moves_3 : MS :=
  sq (sSet 7 (asO (calO newL (rdNil))))
  (sq (sFor (iSeqA (rdA 6)) (gN 8) (triads.B_least_moves_2))
  (sSet 6 (asT (rdA 7))))
def triads.R_least_moves : MS :=
  sq (sExpr (calU triads.F_need_shape (rdCons (rdA 0) (rdCons (rdA 1) (rdCons (rdA 2) (rdNil))))))
  (sq (sExpr (calU triads.F_need_triad (rdCons (rdA 0) (rdCons (rdA 3) (rdNil)))))
  (sq (sExpr (calU triads.F_need_triad (rdCons (rdA 0) (rdCons (rdA 4) (rdNil)))))
  (sq (sPar 5 6 (xsCons (asO (disp1B (rdA 3) (rdC (.str (PySem.Str.ofString ""))))) (xsCons (asT (frzM (calO newL (rdCons (rdA 3) (rdNil))))) (xsNil))))
  (sq (whl (triads.C_least_moves_1) (triads.B_least_moves_3) 1000000)
  (sRet (dg1A 5 (rdA 4)))))))
def triads.F_least_moves : Sg := fnF 11 5 triads.R_least_moves
-- reached: 0:many 1:third 2:fifth 3:step
def triads.R_reached : MS :=
  sq (sExpr (calU triads.F_need_shape (rdCons (rdA 0) (rdCons (rdA 1) (rdCons (rdA 2) (rdNil))))))
  (sq (sSet 3 (asT (calU limits.F_common (rdCons (calU limits.F_common (rdCons (rdA 1) (rdCons (rdA 2) (rdNil)))) (rdCons (rdA 0) (rdNil))))))
  (sRet (op2 mulA (rdC (.int 2)) (op2 divA (rdA 0) (rdA 3)))))
def triads.F_reached : Sg := fnF 4 3 triads.R_reached
-- _law_alike: 0:_law_found 1:_law_due 2:_law_k
def lw.Q__law_alike_1 (self : Sg) : M Bool :=
  notT (truth (calU self (rdCons (ixA 0 (rdA 2)) (rdCons (ixA 1 (rdA 2)) (rdNil)))))
def lw.L__law_alike_1 (self : Sg) : M T :=
  rdA 2
def lw.R__law_alike (self : Sg) : MS :=
  sq (sIf (truth (op1 (isi2O .tup .lst) (rdA 1))) (sq (sIf (orT (notT (truth (op1 (isi2O .tup .lst) (rdA 0)))) (tst (op2 neO (op1 (isiO .lst) (rdA 0)) (op1 (isiO .lst) (rdA 1))))) (sRet (rdC (.bl false))) (skip))
  (sq (sIf (tst (op2 neO (lenA 0) (lenA 1))) (sRet (rdC (.bl false))) (skip))
  (sRet (op2 eqO (frzM (lcM [2] (calI rg1 (rdCons (lenA 1) (rdNil))) (gN 2) ((lw.Q__law_alike_1 self)) ((lw.L__law_alike_1 self)))) (frzM (calO newL (rdNil))))))) (skip))
  (sq (sIf (orT (tst (op2 (isNO false) (rdA 1) (rdC .non))) (truth (op1 (isiO .str) (rdA 1)))) (sRet (andV (op2 eqO (rdA 0) (rdA 1)) (op2 eqO (op1 (isiO .str) (rdA 0)) (op1 (isiO .str) (rdA 1))))) (skip))
  (sRet (andV (op1 (isiO .int) (rdA 0)) (andV (op2 eqO (op1 (isiO .bl) (rdA 0)) (op1 (isiO .bl) (rdA 1))) (op2 eqO (rdA 0) (rdA 1))))))
def lw.F__law_alike : Nat → Sg
  | 0 => fun _ => .bad
  | k + 1 => fnF 3 2 (lw.R__law_alike (lw.F__law_alike k))
-- law: 0:_law_script 1:_law_row 2:_law_found 3:_law_many 4:_law_third 5:_law_fifth 6:_law_one 7:_law_other 8:_law_known 9:_law_rim 10:_law_later 11:_law_told 12:_law_move_here 13:_law_more
def lw.B_law_1 : MS :=
  sq (sSet 13 (asT (calU lw.F__law_move (rdCons (rdA 3) (rdCons (rdA 4) (rdCons (rdA 5) (rdCons (rdA 11) (rdCons (rdA 12) (rdNil)))))))))
  (sIf (tst (dinA true (rdA 13) 8)) (sq (sSetD 8 (rdA 13) (op2 addO (dgA 8 (rdA 11)) (rdA 12)))
  (sExpr (apnM 10 (rdA 13)))) (skip))
def lw.B_law_2 : MS :=
  sFor (iSeqA (frzM (calO newL (rdCons (rdC (.str (PySem.Str.ofString "L"))) (rdCons (rdC (.str (PySem.Str.ofString "P"))) (rdCons (rdC (.str (PySem.Str.ofString "R"))) (rdNil))))))) (gN 12) (lw.B_law_1)
def lw.S_law_1 : MS :=
  sSet 10 (asO (calO newL (rdNil)))
def lw.S_law_2 : MS :=
  sFor (iSeqA (rdA 9)) (gN 11) (lw.B_law_2)
def lw.S_law_3 : MS :=
  sSet 9 (asT (rdA 10))
def lw.C_law_1 : M Bool :=
  tst (op2 neO (rdA 9) (frzM (calO newL (rdNil))))
def lw.B_law_3 : MS :=
  sq (lw.S_law_1)
  (sq (lw.S_law_2)
  (lw.S_law_3))
def lw.B_law_4 : MS :=
  sIf (andT (tst (op2 eqO (calF lenO (rdCons (dgA 8 (rdA 11)) (rdNil))) (op2 subA (lenA 2) (rdC (.int 1))))) (andT (tst (op2 eqO (calU lw.F__law_move (rdCons (rdA 3) (rdCons (rdA 4) (rdCons (rdA 5) (rdCons (rdA 11) (rdCons (rdA 12) (rdNil))))))) (rdA 7))) (tst (op2 ltDO (op2 addO (dgA 8 (rdA 11)) (rdA 12)) (rdA 2))))) (sRet (rdC (.bl false))) (skip)
def lw.B_law_5 : MS :=
  sFor (iSeqA (frzM (calO newL (rdCons (rdC (.str (PySem.Str.ofString "L"))) (rdCons (rdC (.str (PySem.Str.ofString "P"))) (rdCons (rdC (.str (PySem.Str.ofString "R"))) (rdNil))))))) (gN 12) (lw.B_law_4)
def lw.S_law_4 : MS :=
  sSet 1 (asO (calO newL (rdCons (rdA 0) (rdCons (rdC (.int 0)) (rdCons (rdC (.int 4283)) (rdCons (rdC (.int 0)) (rdNil)))))))
def lw.S_law_5 : MS :=
  sAsg (gT (gsCons (gN 3) (gsCons (gN 4) (gsCons (gN 5) (gsNil))))) (calM lw.F__law_triads 1 (rdNil))
def lw.S_law_6 : MS :=
  sPar 6 7 (xsCons (asT (calF tupO (rdCons (calM lw.F__law_taken 1 (rdCons (rdA 3) (rdNil))) (rdCons (op2 eqO (calM lw.F__law_taken 1 (rdCons (rdC (.int 2)) (rdNil))) (rdC (.int 0))) (rdNil))))) (xsCons (asT (calF tupO (rdCons (calM lw.F__law_taken 1 (rdCons (rdA 3) (rdNil))) (rdCons (op2 eqO (calM lw.F__law_taken 1 (rdCons (rdC (.int 2)) (rdNil))) (rdC (.int 0))) (rdNil))))) (xsNil)))
def lw.S_law_7 : MS :=
  sPar 8 9 (xsCons (asO (disp1B (rdA 6) (rdC (.str (PySem.Str.ofString ""))))) (xsCons (asT (frzM (calO newL (rdCons (rdA 6) (rdNil))))) (xsNil)))
def lw.S_law_8 : MS :=
  whl (lw.C_law_1) (lw.B_law_3) 1000000
def lw.S_law_9 : MS :=
  sSet 2 (asT (calU triads.F_least_moves (rdCons (rdA 3) (rdCons (rdA 4) (rdCons (rdA 5) (rdCons (rdA 6) (rdCons (rdA 7) (rdNil))))))))
def lw.S_law_10 : MS :=
  sIf (orT (notT (truth (calU (lw.F__law_alike 8) (rdCons (rdA 2) (rdCons (dg2A 8 (rdA 7) (rdC .non)) (rdNil)))))) (notT (truth (calU (lw.F__law_alike 8) (rdCons (calU triads.F_reached (rdCons (rdA 3) (rdCons (rdA 4) (rdCons (rdA 5) (rdNil))))) (rdCons (lenDB 8) (rdNil))))))) (sRet (rdC (.bl false))) (skip)
def lw.S_law_11 : MS :=
  sIf (tst (op2 (isNO true) (rdA 2) (rdC .non))) (sq (sIf (tst (op2 neO (calU triads.F_walk (rdCons (rdA 3) (rdCons (rdA 4) (rdCons (rdA 5) (rdCons (rdA 6) (rdCons (rdA 2) (rdNil))))))) (rdA 7))) (sRet (rdC (.bl false))) (skip))
  (sFor (iKsB 8) (gN 11) (lw.B_law_5))) (skip)
def lw.S_law_12 : MS :=
  sRet (rdC (.bl true))
def lw.R_law : MS :=
  sq (lw.S_law_4)
  (sq (lw.S_law_5)
  (sq (lw.S_law_6)
  (sq (lw.S_law_7)
  (sq (lw.S_law_8)
  (sq (lw.S_law_9)
  (sq (lw.S_law_10)
  (sq (lw.S_law_11)
  (lw.S_law_12))))))))
def lw.F_law : Sg := fnF 14 1 lw.R_law
end TW

/-! NLT: the laws' helpers that are done by hand. -/
namespace FL.NL
open PySem PySem.Spec TW
theorem mulA_int {i j : Int} : mulA (.int i) (.int j) = if mulC i j then some (.int (i * j)) else none := Eq.trans rfl rfl
theorem divA_e {i j : Int} (h : 0 < j) (h2 : j < 18446744073709551616) : divA (.int i) (.int j) = some (.int (i / j)) := by
  have := divR_pos (a := i) h h2
  have l := div_I i j
  rw [this] at l
  exact l
theorem intA_int {i : Int} : intA [.int i] = some (.int i) := Eq.trans rfl rfl
theorem subA_int {i j : Int} : subA (.int i) (.int j) = some (.int (i - j)) := Eq.trans rfl rfl
theorem p18 : powO (.int 10) (.int 18) = some (.int 1000000000000000000) := by rfl
theorem pc18 : powC 10 18 = true := by decide
theorem taken {o : O} (h : RowOk o) {m : Int} (h0 : 0 < m) (h1 : m < 18446744073709551616) : ∃ r o', lw.F__law_taken o [.int m] = .ok (.int r, o') [] ∧ 0 ≤ r ∧ r < m ∧ RowOk o' := by
  obtain ⟨cs, a, b, c, rfl, ha, hb, hb2⟩ := h
  have hm : ∀ i : Int, 0 ≤ i % m ∧ i % m < m := fun i => ⟨Int.emod_nonneg _ (by omega), Int.emod_lt_of_pos _ h0⟩
  have hd : ∀ i : Int, divA (.int i) (.int m) = some (.int (i / m)) := fun i => divA_e h0 h1
  have hmo : ∀ i : Int, modO (.int i) (.int m) = some (.int (i % m)) := fun i => modO_e h0
  have h2 : ∀ i : Int, modO (.int i) (.int 2147483647) = some (.int (i % 2147483647)) := fun i => modO_e (by decide)
  have h7 : ∀ i : Int, divA (.int i) (.int 7) = some (.int (i / 7)) := fun i => divA_e (by decide) (by decide)
  have hb3 : ∀ i : Int, 0 ≤ i % 2147483647 ∧ i % 2147483647 < 2147483647 := fun i => ⟨Int.emod_nonneg _ (by omega), Int.emod_lt_of_pos _ (by decide)⟩
  have hmu : mulA (.int b) (.int 48271) = some (.int (b * 48271)) := by
    rw [mulA_int, if_pos (mulC_of (m := 64) (n := 64) (by omega) (by decide) (by decide) (by decide) (by decide))]
  have i0 : ∀ {x y z w : T}, atT [x, y, z, w] 0 = some x := rfl
  have i1 : ∀ {x y z w : T}, atT [x, y, z, w] 1 = some y := rfl
  have i2 : ∀ {x y z w : T}, atT [x, y, z, w] 2 = some z := rfl
  have i3 : ∀ {x y z w : T}, atT [x, y, z, w] 3 = some w := rfl
  have d1 : idx 4 1 = some 1 := rfl
  have d2 : idx 4 2 = some 2 := rfl
  have d3 : idx 4 3 = some 3 := rfl
  by_cases hc : 0 < c
  · refine ⟨c % m, .l [.sl (cs.map T.int), .int a, .int b, .int (c / m)], ?_, (hm c).1, (hm c).2, cs, a, b, _, rfl, ha, hb, hb2⟩
    simp [lw.F__law_taken, fnM, lw.R__law_taken, has_e, rdOwn_e, setOwn_e, i0, i1, i2, i3, d3, hc, hmo, hd, rdA_e, intA_int, subA_int, -intC_e]
  · by_cases hl : (cs.length : Int) < a + 1
    · refine ⟨((b * 48271 + 11) % 2147483647) / 7 % m, .l [.sl (cs.map T.int), .int (a + 1), .int ((b * 48271 + 11) % 2147483647), .int c], ?_, (hm _).1, (hm _).2, cs, a + 1, _, _, rfl, by omega, (hb3 _).1, (hb3 _).2⟩
      simp [lw.F__law_taken, fnM, lw.R__law_taken, has_e, rdOwn_e, setOwn_e, i0, i1, i2, i3, d1, d2, d3, hc, hmo, hd, rdA_e, hl, h2, h7, hmu, intA_int, subA_int, -intC_e]
    · have hx : a.toNat < cs.length := by omega
      have hcell : atT (cs.map T.int) a = some (.int (cs[a.toNat]'hx)) := atT_pos ha (by simp [hx])
      generalize hz : cs[a.toNat]'hx = z at hcell
      by_cases hg : 1000000000000000000 ≤ z
      · refine ⟨z % m, .l [.sl (cs.map T.int), .int (a + 1), .int ((b * 48271 + z + 11) % 2147483647), .int (z / m)], ?_, (hm _).1, (hm _).2, cs, a + 1, _, _, rfl, by omega, (hb3 _).1, (hb3 _).2⟩
        simp [lw.F__law_taken, fnM, lw.R__law_taken, has_e, rdOwn_e, setOwn_e, i0, i1, i2, i3, d1, d2, d3, hc, hmo, hd, rdA_e, hl, h2, h7, hmu, hcell, p18, hg, intA_int, subA_int, -intC_e]
      · refine ⟨z % m, .l [.sl (cs.map T.int), .int (a + 1), .int ((b * 48271 + z + 11) % 2147483647), .int c], ?_, (hm _).1, (hm _).2, cs, a + 1, _, _, rfl, by omega, (hb3 _).1, (hb3 _).2⟩
        simp [lw.F__law_taken, fnM, lw.R__law_taken, has_e, rdOwn_e, setOwn_e, i0, i1, i2, i3, d1, d2, d3, hc, hmo, hd, rdA_e, hl, h2, h7, hmu, hcell, p18, hg, intA_int, subA_int, -intC_e]
/-- a drawn number -/
def N._law_taken (m : Int) : R Int := .dr m fun v => .ok v
theorem n__law_taken (m : Int) : FnM lw.F__law_taken (aC eI aN (m, ())) (N._law_taken m) eI := fun o ho h0 h1 => by
  obtain ⟨r, o', e, r0, r1, ho'⟩ := taken ho h0 h1
  exact ⟨r, r0, r1, o', [], ho', e⟩
end FL.NL

/-! NL5: alike. -/
namespace FL
open PySem PySem.Spec TW
theorem atI {i : Int} {n : Nat} {ts : List T} {t : T} (h : ts[n]? = some t) (e : i = n) : atT ts i = some t := by subst e; exact atT_nat h
theorem mem_rgT {lo : Int} {n : Nat} {t : T} (h : t ∈ rgT lo n) : ∃ i : Nat, i < n ∧ t = .int (lo + (i : Nat)) := by
  unfold rgT at h
  obtain ⟨i, hi, rfl⟩ := List.mem_map.mp h
  exact ⟨i, List.mem_range.mp hi, rfl⟩
mutual
/-- numbers, truths, texts, and rows of them, so deep -/
def adat : Nat → T → Bool
  | _, .non => true
  | _, .int _ => true
  | _, .bl _ => true
  | _, .str _ => true
  | k + 1, .tup ts => adats k ts && decide (ts.length ≤ 1000000)
  | k + 1, .lst ts => adats k ts && decide (ts.length ≤ 1000000)
  | _, _ => false
def adats : Nat → List T → Bool
  | _, [] => true
  | k, t :: ts => adat k t && adats k ts
end
theorem adats_get : ∀ {k : Nat} {ts : List T} {i : Nat} {t : T}, adats k ts = true → ts[i]? = some t → adat k t = true
  | k, [], i, t, _, h => by simp at h
  | k, u :: us, 0, t, a, h => by
    simp only [adats, Bool.and_eq_true] at a
    simp only [List.getElem?_cons_zero, Option.some.injEq] at h
    exact h ▸ a.1
  | k, u :: us, i + 1, t, a, h => by
    simp only [adats, Bool.and_eq_true] at a
    exact adats_get a.2 (by simpa using h)
theorem eqO_nil : eqO (.lst []) (.lst []) = some (.bl true) := rfl
theorem alike_comp {F : Sg} {t : T} {ts : List T} (ht : t = .tup ts ∨ t = .lst ts) (hl : ts.length ≤ 1000000) (h : ∀ u ∈ ts, F [u, u] = .ok (.bl true) []) :
    lcL [2] (gN 2) (lw.Q__law_alike_1 F) (lw.L__law_alike_1 F) (rgT 0 ts.length) [] [.fz t, .fz t, .un] = .ok [] [.fz t, .fz t, .un] := by
  have e := lcL_map (ρ0 := [.fz t, .fz t, .un]) (i := 2) (test := lw.Q__law_alike_1 F) (elt := lw.L__law_alike_1 F) (p := fun _ => false) (φ := fun t => t) (by simp) (ts := rgT 0 ts.length) (acc := []) (fun u hu => by
    obtain ⟨i, hi, rfl⟩ := mem_rgT hu
    have hu : ts[i]? = some ts[i] := by simp
    have ha : atT ts (0 + (i : Int)) = some ts[i] := atI hu (by omega)
    have hF := h ts[i] (List.getElem_mem hi)
    rcases ht with rfl | rfl <;> simp only [lw.Q__law_alike_1, notT_e, truth_e, calU_e, rdCons_e, rdNil_e, ixA_e, has_e, rdA_e, List.set_cons_succ, List.set_cons_zero, List.getElem?_cons_zero, List.getElem?_cons_succ, isHas_t, if_true, bind_ok, ixO_t, ixO_l, ha, lift_some, hF, tru_bl, Bool.not_true]) (fun t ht hp => by cases hp) (by simp [rgT]; omega)
  have fn : ∀ xs : List T, List.filter (fun _ : T => false) xs = [] := fun xs => by simp
  rw [fn] at e
  exact e
theorem alike_same : ∀ {k : Nat} {t : T}, adat k t = true → lw.F__law_alike (k + 1) [t, t] = .ok (.bl true) []
  | k, .non, _ => by simp [lw.F__law_alike, fnF, lw.R__law_alike, rdA_e]
  | k, .int i, _ => by
    have h1 : isNO false (.int i) .non = some (.bl false) := rfl
    simp [lw.F__law_alike, fnF, lw.R__law_alike, rdA_e, h1]
  | k, .bl b, _ => by
    have h1 : isNO false (.bl b) .non = some (.bl false) := rfl
    simp [lw.F__law_alike, fnF, lw.R__law_alike, rdA_e, h1]
  | k, .str x, _ => by
    have h1 : isNO false (.str x) .non = some (.bl false) := rfl
    simp [lw.F__law_alike, fnF, lw.R__law_alike, rdA_e, h1]
  | k + 1, .tup ts, h => by
    simp only [adat, Bool.and_eq_true, decide_eq_true_eq] at h
    have e := alike_comp (F := lw.F__law_alike (k + 1)) (t := .tup ts) (.inl rfl) h.2 fun u hu => by
      obtain ⟨i, hi⟩ := List.getElem?_of_mem hu
      exact alike_same (adats_get h.1 hi)
    have hf : freeS [SV.fz (T.tup ts), SV.fz (T.tup ts), SV.un] [2] = true := rfl
    have c1 : (-4611686018427387904 ≤ ((ts.length : Nat) : Int)) := by omega
    have c2 : ((ts.length : Nat) : Int) < 4611686018427387904 := by omega
    show fnF 3 2 (lw.R__law_alike (lw.F__law_alike (k + 1))) _ = _
    generalize lw.F__law_alike (k + 1) = F at *
    simp [fnF, lw.R__law_alike, rdA_e, has_e, hf, c1, c2, e, eqO_nil]
  | k + 1, .lst ts, h => by
    simp only [adat, Bool.and_eq_true, decide_eq_true_eq] at h
    have e := alike_comp (F := lw.F__law_alike (k + 1)) (t := .lst ts) (.inr rfl) h.2 fun u hu => by
      obtain ⟨i, hi⟩ := List.getElem?_of_mem hu
      exact alike_same (adats_get h.1 hi)
    have hf : freeS [SV.fz (T.lst ts), SV.fz (T.lst ts), SV.un] [2] = true := rfl
    have c1 : (-4611686018427387904 ≤ ((ts.length : Nat) : Int)) := by omega
    have c2 : ((ts.length : Nat) : Int) < 4611686018427387904 := by omega
    show fnF 3 2 (lw.R__law_alike (lw.F__law_alike (k + 1))) _ = _
    generalize lw.F__law_alike (k + 1) = F at *
    simp [fnF, lw.R__law_alike, rdA_e, has_e, hf, c1, c2, e, eqO_nil]
  | 0, .tup _, h => by simp [adat] at h
  | 0, .lst _, h => by simp [adat] at h
  | _, .sl _, h => by simp [adat] at h
  | _, .fn _, h => by simp [adat] at h
  | _, .dk _ _, h => by simp [adat] at h
  | _, .dt _ _, h => by simp [adat] at h
termination_by k => k
theorem alike8 {k : Nat} {t : T} (h : adat k t = true) (hk : k = 7 := by rfl) : lw.F__law_alike 8 [t, t] = .ok (.bl true) [] := by
  subst hk
  exact alike_same h
end FL
namespace FL.NL
open PySem PySem.Spec TW
variable {α β γ : Type}
/-- alike: only sure of the same -/
def alikeR [DecidableEq α] (f : α → T) (a b : α) : R Bool := if a = b ∧ adat 7 (f a) = true then .ok true else .bad
theorem n_alike [DecidableEq α] (f : α → T) (a b : α) : Fn (lw.F__law_alike 8) (aC f (aC f aN) (a, (b, ()))) (alikeR f a b) eB := by
  refine ⟨?_⟩
  unfold alikeR
  by_cases e : a = b ∧ adat 7 (f a) = true
  · rw [if_pos e]
    obtain ⟨rfl, h⟩ := e
    exact alike_same h
  · rw [if_neg e]; trivial
end FL.NL

set_option maxHeartbeats 4000000
namespace FL.NL
open PySem TW
def N._law_triads  : R (Int × (Int × (Int × Unit))) :=
  (rgR (0 : Int) (50 : Int)).bind fun r => (forC r (fun (x : Int) (st1 : Unit) => ((N._law_taken (30 : Int)).noX).bind fun d => ((.ok ((3 : Int) + d) : R Int)).bind fun many => ((N._law_taken (many - (2 : Int))).noX).bind fun d2 => ((.ok ((1 : Int) + d2) : R Int)).bind fun third => ((N._law_taken ((many - (1 : Int)) - third)).noX).bind fun d3 => ((.ok ((third + (1 : Int)) + d3) : R Int)).bind fun fifth => (mulR (2 : Int) third).bind fun t => (modR t many).bind fun t2 => (if (!decide (t2 = fifth)) = true then (mulR (2 : Int) fifth).bind fun t3 => (modR t3 many).bind fun t4 => (if (!decide (t4 = third)) = true then (modR (third + fifth) many).bind fun t5 => .ok (!decide (t5 = (0 : Int))) else .ok false).bind fun t6 => .ok t6 else .ok false).bind fun t7 => if t7 = true then .ok (.rt (many, third, fifth, ())) else .ok (.nx ())) () : R (Lp Unit (Int × (Int × (Int × Unit))))).bind fun lp => match lp with | .nx so => (.ok ((12 : Int), (4 : Int), (7 : Int), ())) | .rt b => .ok b
def N._law_move (many : Int) (third : Int) (fifth : Int) (told : (Int × (Bool × Unit))) (move_here : Str) : R (Int × (Bool × Unit)) :=
  if (decide (move_here = (PySem.Str.ofString "P"))) = true then .ok (told.1, (!told.2.1), ()) else (if told.2.1 = true then (modR (told.1 + (if (decide (move_here = (PySem.Str.ofString "L"))) = true then third else (third - fifth))) many).bind fun t => .ok (t, false, ()) else (modR (told.1 - (if (decide (move_here = (PySem.Str.ofString "L"))) = true then third else (third - fifth))) many).bind fun t2 => .ok (t2, true, ())).bind fun t3 => .ok t3
def N.limits_is_int (value : Int) : R Bool :=
  .ok (true && (!false))
def N.limits_is_in (value : Int) (least : Int) (most : Int) : R Bool :=
  (N.limits_is_int value).bind fun c => .ok (c && (decide (least ≤ value) && decide (value ≤ most)))
def N.triads_need_shape (many : Int) (third : Int) (fifth : Int) : R Unit :=
  (N.limits_is_in many (3 : Int) (60 : Int)).bind fun c => (if (!c) = true then .ok true else (N.limits_is_in third (1 : Int) (many - (2 : Int))).bind fun c2 => (if (!c2) = true then .ok true else (N.limits_is_in fifth (third + (1 : Int)) (many - (1 : Int))).bind fun c3 => .ok (!c3)).bind fun t => .ok t).bind fun t2 => if t2 = true then .bad else (mulR (2 : Int) third).bind fun t3 => (modR t3 many).bind fun t4 => (if (decide (t4 = fifth)) = true then .ok true else (mulR (2 : Int) fifth).bind fun t5 => (modR t5 many).bind fun t6 => (if (decide (t6 = third)) = true then .ok true else (modR (third + fifth) many).bind fun t7 => .ok (decide (t7 = (0 : Int)))).bind fun t8 => .ok t8).bind fun t9 => if t9 = true then .bad else .ok ()
def N.triads_need_triad (many : Int) (value : (Int × (Bool × Unit))) : R Unit :=
  (if (!true) = true then .ok true else (if (!decide ((2 : Int) = (2 : Int))) = true then .ok true else (N.limits_is_in value.1 (0 : Int) (many - (1 : Int))).bind fun c => .ok (!c)).bind fun t => .ok t).bind fun t2 => if t2 = true then .bad else if (!true) = true then .bad else .ok ()
def N.triads_move_of (many : Int) (third : Int) (fifth : Int) (told : (Int × (Bool × Unit))) (move : Str) : R (Int × (Bool × Unit)) :=
  if (decide (move = (PySem.Str.ofString "P"))) = true then .ok (told.1, (!told.2.1), ()) else (if told.2.1 = true then (modR (told.1 + (if (decide (move = (PySem.Str.ofString "L"))) = true then third else (third - fifth))) many).bind fun t => .ok t else (modR (told.1 - (if (decide (move = (PySem.Str.ofString "L"))) = true then third else (third - fifth))) many).bind fun t2 => .ok t2).bind fun t3 => .ok (t3, (!told.2.1), ())
def N.triads_least_moves (many : Int) (third : Int) (fifth : Int) (one1 : (Int × (Bool × Unit))) (other1 : (Int × (Bool × Unit))) : R (Option Str) :=
  (N.triads_need_shape many third fifth).bind fun _ => (N.triads_need_triad many one1).bind fun _ => (N.triads_need_triad many other1).bind fun _ => (whileR 1000000 (fun (st1 : ((Dic (Int × (Bool × Unit)) Str) × (List (Int × (Bool × Unit))))) => (if (!(mGt st1.1 other1).isSome) = true then (neR ((eL (eP (aC eI (aC eB aN)))) st1.2) ((eL (eP (aC eI (aC eB aN)))) [])).bind fun t => .ok t else .ok false).bind fun t2 => .ok t2) (fun (st1 : ((Dic (Int × (Bool × Unit)) Str) × (List (Int × (Bool × Unit))))) => (forR st1.2 (fun (x : (Int × (Bool × Unit))) (st2 : ((Dic (Int × (Bool × Unit)) Str) × (List (Int × (Bool × Unit))))) => (forR (chS (PySem.Str.ofString "LPR")) (fun (x2 : Str) (st3 : ((Dic (Int × (Bool × Unit)) Str) × (List (Int × (Bool × Unit))))) => (N.triads_move_of many third fifth x x2).bind fun more => (if (!(mGt st3.1 more).isSome) = true then (mgR st3.1 x).bind fun t3 => (catS t3 x2).bind fun t4 => (msR st3.1 more t4).bind fun known => (appR st3.2 more).bind fun later => .ok (known, later) else .ok (st3.1, st3.2) : R ((Dic (Int × (Bool × Unit)) Str) × (List (Int × (Bool × Unit))))).bind fun st4 => .ok (st4.1, st4.2)) (st2.1, st2.2)).bind fun so => .ok (so.1, so.2)) (st1.1, [])).bind fun so2 => .ok (so2.1, so2.2)) ([(one1, (PySem.Str.ofString ""))], [one1])).bind fun so3 => .ok (mGt so3.1 other1)
def N.limits_common (one1 : Int) (other1 : Int) : R Int :=
  (whileR 1000000 (fun (st1 : (Int × Int)) => .ok (!decide (st1.2 = (0 : Int)))) (fun (st1 : (Int × Int)) => (modR st1.1 st1.2).bind fun t => .ok (st1.2, t)) ((absI one1), (absI other1))).bind fun so => .ok so.1
def N.triads_reached (many : Int) (third : Int) (fifth : Int) : R Int :=
  (N.triads_need_shape many third fifth).bind fun _ => (N.limits_common third fifth).bind fun c2 => (N.limits_common c2 many).bind fun step => (divR many step).bind fun t => (mulR (2 : Int) t).bind fun t2 => .ok t2
def N.triads_need_moves (value : Str) : R Unit :=
  (if (!true) = true then .ok true else (lenS value).bind fun n => (if (decide (n > (200 : Int))) = true then .ok true else (cmpR (chS value) (fun _ => .ok true) fun (sign : Str) => (inSR sign (PySem.Str.ofString "PLR")).bind fun t => .ok t).bind fun l => .ok (!(l.all idB))).bind fun t2 => .ok t2).bind fun t3 => if t3 = true then .bad else .ok ()
def N.triads_walked (many : Int) (third : Int) (fifth : Int) (told : (Int × (Bool × Unit))) (moves : Str) : R (Int × (Bool × Unit)) :=
  (forR (chS moves) (fun (x : Str) (st1 : (Int × (Bool × Unit))) => (N.triads_move_of many third fifth st1 x).bind fun told2 => .ok told2) told).bind fun so => .ok so
def N.triads_walk (many : Int) (third : Int) (fifth : Int) (told : (Int × (Bool × Unit))) (moves : Str) : R (Int × (Bool × Unit)) :=
  (N.triads_need_shape many third fifth).bind fun _ => (N.triads_need_triad many told).bind fun _ => (N.triads_need_moves moves).bind fun _ => (N.triads_walked many third fifth told moves).bind fun c4 => .ok c4
def N.law (script : (List Int)) : R Bool :=
  ((N._law_triads ).noX).bind fun p1 => ((N._law_taken p1.1).noX).bind fun d => ((N._law_taken (2 : Int)).noX).bind fun d2 => ((N._law_taken p1.1).noX).bind fun d3 => ((N._law_taken (2 : Int)).noX).bind fun d4 => (whileR 1000000 (fun (st1 : ((Dic (Int × (Bool × Unit)) Str) × (List (Int × (Bool × Unit))))) => (neR ((eL (eP (aC eI (aC eB aN)))) st1.2) ((eL (eP (aC eI (aC eB aN)))) [])).bind fun t => .ok t) (fun (st1 : ((Dic (Int × (Bool × Unit)) Str) × (List (Int × (Bool × Unit))))) => (forR st1.2 (fun (x : (Int × (Bool × Unit))) (st2 : ((Dic (Int × (Bool × Unit)) Str) × (List (Int × (Bool × Unit))))) => (forR [(PySem.Str.ofString "L"), (PySem.Str.ofString "P"), (PySem.Str.ofString "R")] (fun (x2 : Str) (st3 : ((Dic (Int × (Bool × Unit)) Str) × (List (Int × (Bool × Unit))))) => (N._law_move p1.1 p1.2.1 p1.2.2.1 x x2).bind fun more => (if (!(mGt st3.1 more).isSome) = true then (mgR st3.1 x).bind fun t2 => (catS t2 x2).bind fun t3 => (msR st3.1 more t3).bind fun known => (appR st3.2 more).bind fun later => .ok (known, later) else .ok (st3.1, st3.2) : R ((Dic (Int × (Bool × Unit)) Str) × (List (Int × (Bool × Unit))))).bind fun st4 => .ok (st4.1, st4.2)) (st2.1, st2.2)).bind fun so => .ok (so.1, so.2)) (st1.1, [])).bind fun so2 => .ok (so2.1, so2.2)) ([((d, (decide (d2 = (0 : Int))), ()), (PySem.Str.ofString ""))], [(d, (decide (d2 = (0 : Int))), ())])).bind fun so3 => (N.triads_least_moves p1.1 p1.2.1 p1.2.2.1 (d, (decide (d2 = (0 : Int))), ()) (d3, (decide (d4 = (0 : Int))), ())).bind fun found => (alikeR (eO eS) found (mGt so3.1 (d3, (decide (d4 = (0 : Int))), ()))).bind fun b1 => (if (!b1) = true then .ok true else (N.triads_reached p1.1 p1.2.1 p1.2.2.1).bind fun c4 => (alikeR eI c4 (so3.1.length : Int)).bind fun b2 => .ok (!b2)).bind fun t4 => if t4 = true then .ok false else if found.isSome = true then (unO found).bind fun u => (N.triads_walk p1.1 p1.2.1 p1.2.2.1 (d, (decide (d2 = (0 : Int))), ()) u).bind fun c5 => (neR ((eP (aC eI (aC eB aN))) c5) ((eP (aC eI (aC eB aN))) (d3, (decide (d4 = (0 : Int))), ()))).bind fun t5 => if t5 = true then .ok false else (forC (mK so3.1) (fun (x3 : (Int × (Bool × Unit))) (st5 : Unit) => (forC [(PySem.Str.ofString "L"), (PySem.Str.ofString "P"), (PySem.Str.ofString "R")] (fun (x4 : Str) (st6 : Unit) => (mgR so3.1 x3).bind fun t6 => (lenS t6).bind fun n => (unO found).bind fun u2 => (lenS u2).bind fun n2 => (if (decide (n = (n2 - (1 : Int)))) = true then (N._law_move p1.1 p1.2.1 p1.2.2.1 x3 x4).bind fun c6 => (eqR ((eP (aC eI (aC eB aN))) c6) ((eP (aC eI (aC eB aN))) (d3, (decide (d4 = (0 : Int))), ()))).bind fun t7 => (if t7 = true then (mgR so3.1 x3).bind fun t8 => (catS t8 x4).bind fun t9 => (unO found).bind fun u3 => .ok (ltD PyData.str t9 u3) else .ok false).bind fun t10 => .ok t10 else .ok false).bind fun t11 => if t11 = true then .ok (.rt false) else .ok (.nx ())) () : R (Lp Unit Bool)).bind fun lp => match lp with | .nx so4 => (.ok (.nx ())) | .rt b => .ok (.rt b)) () : R (Lp Unit Bool)).bind fun lp => match lp with | .nx so5 => (.ok true) | .rt b => .ok b else .ok true
theorem n_N__law_triads  : FnM lw.F__law_triads (aN ()) (N._law_triads ) (eP (aC eI (aC eI (aC eI aN)))) := fm_of (show SW (ctxM 5 1 (aN ())) lw.R__law_triads ((rgR (0 : Int) (50 : Int)).bind fun r => (forC r (fun (x : Int) (st1 : Unit) => ((N._law_taken (30 : Int)).noX).bind fun d => ((.ok ((3 : Int) + d) : R Int)).bind fun many => ((N._law_taken (many - (2 : Int))).noX).bind fun d2 => ((.ok ((1 : Int) + d2) : R Int)).bind fun third => ((N._law_taken ((many - (1 : Int)) - third)).noX).bind fun d3 => ((.ok ((third + (1 : Int)) + d3) : R Int)).bind fun fifth => (mulR (2 : Int) third).bind fun t => (modR t many).bind fun t2 => (if (!decide (t2 = fifth)) = true then (mulR (2 : Int) fifth).bind fun t3 => (modR t3 many).bind fun t4 => (if (!decide (t4 = third)) = true then (modR (third + fifth) many).bind fun t5 => .ok (!decide (t5 = (0 : Int))) else .ok false).bind fun t6 => .ok t6 else .ok false).bind fun t7 => if t7 = true then .ok (.rt (many, third, fifth, ())) else .ok (.nx ())) () : R (Lp Unit (Int × (Int × (Int × Unit))))).bind fun lp => match lp with | .nx so => (.ok ((12 : Int), (4 : Int), (7 : Int), ())) | .rt b => .ok b) (PM (eP (aC eI (aC eI (aC eI aN))))) from
  sw_re (Γ0 := [.row true, .is .un, .is .un, .is .un, .is .un]) (sw_forC (fx := eI) (Δ := fun (st : Unit) => [.row true, .nf, .nf, .nf, .nf]) (Γ1 := fun (x : Int) (st1 : Unit) => [.row true, .is (.fz (eI x)), .nf, .nf, .nf]) (Pr := PM (eP (aC eI (aC eI (aC eI aN))))) (body := fun (x : Int) (st1 : Unit) => ((N._law_taken (30 : Int)).noX).bind fun d => ((.ok ((3 : Int) + d) : R Int)).bind fun many => ((N._law_taken (many - (2 : Int))).noX).bind fun d2 => ((.ok ((1 : Int) + d2) : R Int)).bind fun third => ((N._law_taken ((many - (1 : Int)) - third)).noX).bind fun d3 => ((.ok ((third + (1 : Int)) + d3) : R Int)).bind fun fifth => (mulR (2 : Int) third).bind fun t => (modR t many).bind fun t2 => (if (!decide (t2 = fifth)) = true then (mulR (2 : Int) fifth).bind fun t3 => (modR t3 many).bind fun t4 => (if (!decide (t4 = third)) = true then (modR (third + fifth) many).bind fun t5 => .ok (!decide (t5 = (0 : Int))) else .ok false).bind fun t6 => .ok t6 else .ok false).bind fun t7 => if t7 = true then .ok (.rt (many, third, fifth, ())) else .ok (.nx ())) (k := fun (lp : Lp Unit (Int × (Int × (Int × Unit)))) => match lp with | .nx so => (.ok ((12 : Int), (4 : Int), (7 : Int), ())) | .rt b => .ok b) () (ew_calIp rg_1 (ew_consc (50 : Int) eI (ew_nil))) (by exact (Le.k (Le.u (Le.u (Le.u (Le.u Le.nil)))))) (fun x st1 => gw_n) (fun x st1 => sw_re (Γ0 := [.row true, .is (.fz (eI x)), .nf, .nf, .nf]) (sw_set (ew_bindv (ew_op2l (add_I) (3 : Int) (fun _ => ew_con (3 : Int) eI) (ew_callM (i := 0) (fun (a : Int × Unit) => n__law_taken a.1) (ew_consc (30 : Int) eI (ew_nil))))) (fun many => sw_re (Γ0 := [.row true, .is (.fz (eI x)), .is (.fz (eI many)), .nf, .nf]) (sw_set (ew_bindv (ew_op2l (add_I) (1 : Int) (fun _ => ew_con (1 : Int) eI) (ew_callM (i := 0) (fun (a : Int × Unit) => n__law_taken a.1) (ew_consp (f1 := eI) (many - (2 : Int)) (fun _ => ew_op2b (sub_I) many (fun _ => ew_var (i := 2) many eI) (2 : Int) (fun _ => ew_con (2 : Int) eI)) (ew_nil))))) (fun third => sw_re (Γ0 := [.row true, .is (.fz (eI x)), .is (.fz (eI many)), .is (.fz (eI third)), .nf]) (sw_set (ew_bindv (ew_op2l (add_I) (third + (1 : Int)) (fun _ => ew_op2b (add_I) third (fun _ => ew_var (i := 3) third eI) (1 : Int) (fun _ => ew_con (1 : Int) eI)) (ew_callM (i := 0) (fun (a : Int × Unit) => n__law_taken a.1) (ew_consp (f1 := eI) ((many - (1 : Int)) - third) (fun _ => ew_op2b (sub_I) (many - (1 : Int)) (fun _ => ew_op2b (sub_I) many (fun _ => ew_var (i := 2) many eI) (1 : Int) (fun _ => ew_con (1 : Int) eI)) third (fun _ => ew_var (i := 3) third eI)) (ew_nil))))) (fun fifth => sw_re (Γ0 := [.row true, .is (.fz (eI x)), .is (.fz (eI many)), .is (.fz (eI third)), .is (.fz (eI fifth))]) (sw_last (sw_if (ew_andTx (ew_tst (ew_op2r (ne_of' eqc_I) fifth (fun _ => ew_var (i := 4) fifth eI) (ew_op2pr (mod_I) many (fun _ => ew_var (i := 2) many eI) (ew_op2pb (mul_I) (2 : Int) (fun _ => ew_con (2 : Int) eI) third (fun _ => ew_var (i := 3) third eI))))) (ew_andTx (ew_tst (ew_op2r (ne_of' eqc_I) third (fun _ => ew_var (i := 3) third eI) (ew_op2pr (mod_I) many (fun _ => ew_var (i := 2) many eI) (ew_op2pb (mul_I) (2 : Int) (fun _ => ew_con (2 : Int) eI) fifth (fun _ => ew_var (i := 4) fifth eI))))) (ew_tst (ew_op2r (ne_of' eqc_I) (0 : Int) (fun _ => ew_con (0 : Int) eI) (ew_op2pb (mod_I) (third + fifth) (fun _ => ew_op2b (add_I) third (fun _ => ew_var (i := 3) third eI) fifth (fun _ => ew_var (i := 4) fifth eI)) many (fun _ => ew_var (i := 2) many eI)))))) (sw_re (Γ0 := [.row true, .is (.fz (eI x)), .is (.fz (eI many)), .is (.fz (eI third)), .is (.fz (eI fifth))]) (sw_retCM (Δ := fun (st : Unit) => [.row true, .nf, .nf, .nf, .nf]) (ew_calF (tup_P (by intro _; rfl)) (ew_consv (i := 2) many eI (ew_consv (i := 3) third eI (ew_consv (i := 4) fifth eI (ew_nil))))))) (sw_skip (sw_endC (Δ := fun (st : Unit) => [.row true, .nf, .nf, .nf, .nf]) () (by exact (Le.k (Le.n (Le.n (Le.n (Le.n Le.nil))))))))))))))))) (fun so => sw_re (Γ0 := [.row true, .nf, .nf, .nf, .nf]) (sw_last (sw_retM (ew_cst (((12 : Int), (4 : Int), (7 : Int), ()) : (Int × (Int × (Int × Unit)))) (eP (aC eI (aC eI (aC eI aN)))))))) rt_M))
theorem n_N__law_move (many : Int) (third : Int) (fifth : Int) (told : (Int × (Bool × Unit))) (move_here : Str) : Fn lw.F__law_move ((aC eI (aC eI (aC eI (aC (eP (aC eI (aC eB aN))) (aC eS aN))))) (many, (third, (fifth, (told, (move_here, ())))))) (N._law_move many third fifth told move_here) (eP (aC eI (aC eB aN))) := fn_of (show SW (ctx0 8 5 ((aC eI (aC eI (aC eI (aC (eP (aC eI (aC eB aN))) (aC eS aN))))) (many, (third, (fifth, (told, (move_here, ()))))))) lw.R__law_move (if (decide (move_here = (PySem.Str.ofString "P"))) = true then .ok (told.1, (!told.2.1), ()) else (if told.2.1 = true then (modR (told.1 + (if (decide (move_here = (PySem.Str.ofString "L"))) = true then third else (third - fifth))) many).bind fun t => .ok (t, false, ()) else (modR (told.1 - (if (decide (move_here = (PySem.Str.ofString "L"))) = true then third else (third - fifth))) many).bind fun t2 => .ok (t2, true, ())).bind fun t3 => .ok t3) (PF (eP (aC eI (aC eB aN)))) from
  sw_re (Γ0 := [.is (.fz (eI many)), .is (.fz (eI third)), .is (.fz (eI fifth)), .is (.fz ((eP (aC eI (aC eB aN))) told)), .is (.fz (eS move_here)), .is .un, .is .un, .is .un]) (sw_asgp told (fun _ => ew_var (i := 3) told (eP (aC eI (aC eB aN)))) (gw_t (gs_cons (gw_n) (gs_cons (gw_n) (gs_nil)))) (sw_re (Γ0 := [.is (.fz (eI many)), .is (.fz (eI third)), .is (.fz (eI fifth)), .is (.fz ((eP (aC eI (aC eB aN))) told)), .is (.fz (eS move_here)), .is .un, .is (.fz (eI told.1)), .is (.fz (eB told.2.1))]) (sw_ifp (decide (move_here = (PySem.Str.ofString "P"))) (fun _ => ew_tst (ew_op2b (eq_of eqc_S) move_here (fun _ => ew_var (i := 4) move_here eS) (PySem.Str.ofString "P") (fun _ => ew_con (PySem.Str.ofString "P") eS))) (sw_re (Γ0 := [.is (.fz (eI many)), .is (.fz (eI third)), .is (.fz (eI fifth)), .is (.fz ((eP (aC eI (aC eB aN))) told)), .is (.fz (eS move_here)), .is .un, .is (.fz (eI told.1)), .is (.fz (eB told.2.1))]) (sw_retF (ew_calF (tup_P (by intro _; rfl)) (ew_consv (i := 6) told.1 eI (ew_consp (f1 := eB) (!told.2.1) (fun _ => ew_notV (ew_var (i := 7) told.2.1 eB)) (ew_nil)))))) (sw_skip (sw_re (Γ0 := [.is (.fz (eI many)), .is (.fz (eI third)), .is (.fz (eI fifth)), .is (.fz ((eP (aC eI (aC eB aN))) told)), .is (.fz (eS move_here)), .is .un, .is (.fz (eI told.1)), .is (.fz (eB told.2.1))]) (sw_setp (if (decide (move_here = (PySem.Str.ofString "L"))) = true then third else (third - fifth)) (fun _ => ew_if (a := third) (b := (third - fifth)) (ew_tst (ew_op2b (eq_of eqc_S) move_here (fun _ => ew_var (i := 4) move_here eS) (PySem.Str.ofString "L") (fun _ => ew_con (PySem.Str.ofString "L") eS))) (fun _ => ew_var (i := 1) third eI) (fun _ => ew_op2b (sub_I) third (fun _ => ew_var (i := 1) third eI) fifth (fun _ => ew_var (i := 2) fifth eI))) (sw_re (Γ0 := [.is (.fz (eI many)), .is (.fz (eI third)), .is (.fz (eI fifth)), .is (.fz ((eP (aC eI (aC eB aN))) told)), .is (.fz (eS move_here)), .is (.fz (eI (if (decide (move_here = (PySem.Str.ofString "L"))) = true then third else (third - fifth)))), .is (.fz (eI told.1)), .is (.fz (eB told.2.1))]) (sw_last (sw_retF (ew_ifx (ew_truth (f1 := eB) (w := fun z => z) (fun _ => rfl) (ew_var (i := 7) told.2.1 eB)) (ew_calF (tup_P (by intro _; rfl)) (ew_cons (ew_op2pb (mod_I) (told.1 + (if (decide (move_here = (PySem.Str.ofString "L"))) = true then third else (third - fifth))) (fun _ => ew_op2b (add_I) told.1 (fun _ => ew_var (i := 6) told.1 eI) (if (decide (move_here = (PySem.Str.ofString "L"))) = true then third else (third - fifth)) (fun _ => ew_var (i := 5) (if (decide (move_here = (PySem.Str.ofString "L"))) = true then third else (third - fifth)) eI)) many (fun _ => ew_var (i := 0) many eI)) (fun _ => ew_consc false eB (ew_nil)))) (ew_calF (tup_P (by intro _; rfl)) (ew_cons (ew_op2pb (mod_I) (told.1 - (if (decide (move_here = (PySem.Str.ofString "L"))) = true then third else (third - fifth))) (fun _ => ew_op2b (sub_I) told.1 (fun _ => ew_var (i := 6) told.1 eI) (if (decide (move_here = (PySem.Str.ofString "L"))) = true then third else (third - fifth)) (fun _ => ew_var (i := 5) (if (decide (move_here = (PySem.Str.ofString "L"))) = true then third else (third - fifth)) eI)) many (fun _ => ew_var (i := 0) many eI)) (fun _ => ew_consc true eB (ew_nil)))))))))))))))
theorem n_N_limits_is_int (value : Int) : Fn limits.F_is_int ((aC eI aN) (value, ())) (N.limits_is_int value) eB := fn_of (show SW (ctx0 1 1 ((aC eI aN) (value, ()))) limits.R_is_int (.ok (true && (!false))) (PF eB) from
  sw_re (Γ0 := [.is (.fz (eI value))]) (sw_last (sw_retF (ew_andV (b2 := (!false)) (ew_op1 (w := fun _ => true) (f := eB) (fun _ => rfl) (ew_var (i := 0) value eI)) (fun _ => ew_notV (ew_op1 (w := fun _ => false) (f := eB) (fun _ => rfl) (ew_var (i := 0) value eI)))))))
theorem n_N_limits_is_in (value : Int) (least : Int) (most : Int) : Fn limits.F_is_in ((aC eI (aC eI (aC eI aN))) (value, (least, (most, ())))) (N.limits_is_in value least most) eB := fn_of (show SW (ctx0 3 3 ((aC eI (aC eI (aC eI aN))) (value, (least, (most, ()))))) limits.R_is_in ((N.limits_is_int value).bind fun c => .ok (c && (decide (least ≤ value) && decide (value ≤ most)))) (PF eB) from
  sw_re (Γ0 := [.is (.fz (eI value)), .is (.fz (eI least)), .is (.fz (eI most))]) (sw_last (sw_retF (ew_andV (b2 := (decide (least ≤ value) && decide (value ≤ most))) (ew_call (fun (a : Int × Unit) => n_N_limits_is_int a.1) (ew_consv (i := 0) value eI (ew_nil))) (fun _ => ew_chn le_Ib le_Ib (ew_var (i := 1) least eI) (fun _ => ew_var (i := 0) value eI) (fun _ => ew_var (i := 2) most eI))))))
theorem n_N_triads_need_shape (many : Int) (third : Int) (fifth : Int) : Fn triads.F_need_shape ((aC eI (aC eI (aC eI aN))) (many, (third, (fifth, ())))) (N.triads_need_shape many third fifth) eU := fn_of (show SW (ctx0 3 3 ((aC eI (aC eI (aC eI aN))) (many, (third, (fifth, ()))))) triads.R_need_shape ((N.limits_is_in many (3 : Int) (60 : Int)).bind fun c => (if (!c) = true then .ok true else (N.limits_is_in third (1 : Int) (many - (2 : Int))).bind fun c2 => (if (!c2) = true then .ok true else (N.limits_is_in fifth (third + (1 : Int)) (many - (1 : Int))).bind fun c3 => .ok (!c3)).bind fun t => .ok t).bind fun t2 => if t2 = true then .bad else (mulR (2 : Int) third).bind fun t3 => (modR t3 many).bind fun t4 => (if (decide (t4 = fifth)) = true then .ok true else (mulR (2 : Int) fifth).bind fun t5 => (modR t5 many).bind fun t6 => (if (decide (t6 = third)) = true then .ok true else (modR (third + fifth) many).bind fun t7 => .ok (decide (t7 = (0 : Int)))).bind fun t8 => .ok t8).bind fun t9 => if t9 = true then .bad else .ok ()) (PF eU) from
  sw_re (Γ0 := [.is (.fz (eI many)), .is (.fz (eI third)), .is (.fz (eI fifth))]) (sw_if (ew_orTx (ew_notT (ew_truth (f1 := eB) (w := fun z => z) (fun _ => rfl) (ew_call (fun (a : Int × Int × Int × Unit) => n_N_limits_is_in a.1 a.2.1 a.2.2.1) (ew_consv (i := 0) many eI (ew_consc (3 : Int) eI (ew_consc (60 : Int) eI (ew_nil))))))) (ew_orTx (ew_notT (ew_truth (f1 := eB) (w := fun z => z) (fun _ => rfl) (ew_call (fun (a : Int × Int × Int × Unit) => n_N_limits_is_in a.1 a.2.1 a.2.2.1) (ew_consv (i := 1) third eI (ew_consc (1 : Int) eI (ew_consp (f1 := eI) (many - (2 : Int)) (fun _ => ew_op2b (sub_I) many (fun _ => ew_var (i := 0) many eI) (2 : Int) (fun _ => ew_con (2 : Int) eI)) (ew_nil))))))) (ew_notT (ew_truth (f1 := eB) (w := fun z => z) (fun _ => rfl) (ew_call (fun (a : Int × Int × Int × Unit) => n_N_limits_is_in a.1 a.2.1 a.2.2.1) (ew_consv (i := 2) fifth eI (ew_consp (f1 := eI) (third + (1 : Int)) (fun _ => ew_op2b (add_I) third (fun _ => ew_var (i := 1) third eI) (1 : Int) (fun _ => ew_con (1 : Int) eI)) (ew_consp (f1 := eI) (many - (1 : Int)) (fun _ => ew_op2b (sub_I) many (fun _ => ew_var (i := 0) many eI) (1 : Int) (fun _ => ew_con (1 : Int) eI)) (ew_nil))))))))) (sw_re (Γ0 := [.is (.fz (eI many)), .is (.fz (eI third)), .is (.fz (eI fifth))]) (sw_bad)) (sw_skip (sw_re (Γ0 := [.is (.fz (eI many)), .is (.fz (eI third)), .is (.fz (eI fifth))]) (sw_last (sw_if (ew_orTx (ew_tst (ew_op2r (eq_of eqc_I) fifth (fun _ => ew_var (i := 2) fifth eI) (ew_op2pr (mod_I) many (fun _ => ew_var (i := 0) many eI) (ew_op2pb (mul_I) (2 : Int) (fun _ => ew_con (2 : Int) eI) third (fun _ => ew_var (i := 1) third eI))))) (ew_orTx (ew_tst (ew_op2r (eq_of eqc_I) third (fun _ => ew_var (i := 1) third eI) (ew_op2pr (mod_I) many (fun _ => ew_var (i := 0) many eI) (ew_op2pb (mul_I) (2 : Int) (fun _ => ew_con (2 : Int) eI) fifth (fun _ => ew_var (i := 2) fifth eI))))) (ew_tst (ew_op2r (eq_of eqc_I) (0 : Int) (fun _ => ew_con (0 : Int) eI) (ew_op2pb (mod_I) (third + fifth) (fun _ => ew_op2b (add_I) third (fun _ => ew_var (i := 1) third eI) fifth (fun _ => ew_var (i := 2) fifth eI)) many (fun _ => ew_var (i := 0) many eI)))))) (sw_re (Γ0 := [.is (.fz (eI many)), .is (.fz (eI third)), .is (.fz (eI fifth))]) (sw_bad)) (sw_skip (sw_endF ()))))))))
theorem n_N_triads_need_triad (many : Int) (value : (Int × (Bool × Unit))) : Fn triads.F_need_triad ((aC eI (aC (eP (aC eI (aC eB aN))) aN)) (many, (value, ()))) (N.triads_need_triad many value) eU := fn_of (show SW (ctx0 2 2 ((aC eI (aC (eP (aC eI (aC eB aN))) aN)) (many, (value, ())))) triads.R_need_triad ((if (!true) = true then .ok true else (if (!decide ((2 : Int) = (2 : Int))) = true then .ok true else (N.limits_is_in value.1 (0 : Int) (many - (1 : Int))).bind fun c => .ok (!c)).bind fun t => .ok t).bind fun t2 => if t2 = true then .bad else if (!true) = true then .bad else .ok ()) (PF eU) from
  sw_re (Γ0 := [.is (.fz (eI many)), .is (.fz ((eP (aC eI (aC eB aN))) value))]) (sw_if (ew_orTxp (!true) (fun _ => ew_notT (ew_truth (f1 := eB) (w := fun z => z) (fun _ => rfl) (ew_op1 (w := fun _ => true) (f := eB) (fun _ => rfl) (ew_var (i := 1) value (eP (aC eI (aC eB aN))))))) (ew_orTxp (!decide ((2 : Int) = (2 : Int))) (fun _ => ew_tst (ew_op2b (ne_of' eqc_I) (2 : Int) (fun _ => ew_lenA (i := 1) (t := (eP (aC eI (aC eB aN))) value) (2 : Int) rfl) (2 : Int) (fun _ => ew_con (2 : Int) eI))) (ew_notT (ew_truth (f1 := eB) (w := fun z => z) (fun _ => rfl) (ew_call (fun (a : Int × Int × Int × Unit) => n_N_limits_is_in a.1 a.2.1 a.2.2.1) (ew_consp (f1 := eI) value.1 (fun _ => ew_ixP (i := 1) (j := 0) (t := (eP (aC eI (aC eB aN))) value) value.1 eI rfl) (ew_consc (0 : Int) eI (ew_consp (f1 := eI) (many - (1 : Int)) (fun _ => ew_op2b (sub_I) many (fun _ => ew_var (i := 0) many eI) (1 : Int) (fun _ => ew_con (1 : Int) eI)) (ew_nil))))))))) (sw_re (Γ0 := [.is (.fz (eI many)), .is (.fz ((eP (aC eI (aC eB aN))) value))]) (sw_bad)) (sw_skip (sw_re (Γ0 := [.is (.fz (eI many)), .is (.fz ((eP (aC eI (aC eB aN))) value))]) (sw_last (sw_ifp (!true) (fun _ => ew_notT (ew_truth (f1 := eB) (w := fun z => z) (fun _ => rfl) (ew_op1 (w := fun _ => true) (f := eB) (fun _ => rfl) (ew_ixP (i := 1) (j := 1) (t := (eP (aC eI (aC eB aN))) value) value.2.1 eB rfl)))) (sw_re (Γ0 := [.is (.fz (eI many)), .is (.fz ((eP (aC eI (aC eB aN))) value))]) (sw_bad)) (sw_skip (sw_endF ()))))))))
theorem n_N_triads_move_of (many : Int) (third : Int) (fifth : Int) (told : (Int × (Bool × Unit))) (move : Str) : Fn triads.F_move_of ((aC eI (aC eI (aC eI (aC (eP (aC eI (aC eB aN))) (aC eS aN))))) (many, (third, (fifth, (told, (move, ())))))) (N.triads_move_of many third fifth told move) (eP (aC eI (aC eB aN))) := fn_of (show SW (ctx0 8 5 ((aC eI (aC eI (aC eI (aC (eP (aC eI (aC eB aN))) (aC eS aN))))) (many, (third, (fifth, (told, (move, ()))))))) triads.R_move_of (if (decide (move = (PySem.Str.ofString "P"))) = true then .ok (told.1, (!told.2.1), ()) else (if told.2.1 = true then (modR (told.1 + (if (decide (move = (PySem.Str.ofString "L"))) = true then third else (third - fifth))) many).bind fun t => .ok t else (modR (told.1 - (if (decide (move = (PySem.Str.ofString "L"))) = true then third else (third - fifth))) many).bind fun t2 => .ok t2).bind fun t3 => .ok (t3, (!told.2.1), ())) (PF (eP (aC eI (aC eB aN)))) from
  sw_re (Γ0 := [.is (.fz (eI many)), .is (.fz (eI third)), .is (.fz (eI fifth)), .is (.fz ((eP (aC eI (aC eB aN))) told)), .is (.fz (eS move)), .is .un, .is .un, .is .un]) (sw_asgp told (fun _ => ew_var (i := 3) told (eP (aC eI (aC eB aN)))) (gw_t (gs_cons (gw_n) (gs_cons (gw_n) (gs_nil)))) (sw_re (Γ0 := [.is (.fz (eI many)), .is (.fz (eI third)), .is (.fz (eI fifth)), .is (.fz ((eP (aC eI (aC eB aN))) told)), .is (.fz (eS move)), .is .un, .is (.fz (eI told.1)), .is (.fz (eB told.2.1))]) (sw_ifp (decide (move = (PySem.Str.ofString "P"))) (fun _ => ew_tst (ew_op2b (eq_of eqc_S) move (fun _ => ew_var (i := 4) move eS) (PySem.Str.ofString "P") (fun _ => ew_con (PySem.Str.ofString "P") eS))) (sw_re (Γ0 := [.is (.fz (eI many)), .is (.fz (eI third)), .is (.fz (eI fifth)), .is (.fz ((eP (aC eI (aC eB aN))) told)), .is (.fz (eS move)), .is .un, .is (.fz (eI told.1)), .is (.fz (eB told.2.1))]) (sw_retF (ew_calF (tup_P (by intro _; rfl)) (ew_consv (i := 6) told.1 eI (ew_consp (f1 := eB) (!told.2.1) (fun _ => ew_notV (ew_var (i := 7) told.2.1 eB)) (ew_nil)))))) (sw_skip (sw_re (Γ0 := [.is (.fz (eI many)), .is (.fz (eI third)), .is (.fz (eI fifth)), .is (.fz ((eP (aC eI (aC eB aN))) told)), .is (.fz (eS move)), .is .un, .is (.fz (eI told.1)), .is (.fz (eB told.2.1))]) (sw_setp (if (decide (move = (PySem.Str.ofString "L"))) = true then third else (third - fifth)) (fun _ => ew_if (a := third) (b := (third - fifth)) (ew_tst (ew_op2b (eq_of eqc_S) move (fun _ => ew_var (i := 4) move eS) (PySem.Str.ofString "L") (fun _ => ew_con (PySem.Str.ofString "L") eS))) (fun _ => ew_var (i := 1) third eI) (fun _ => ew_op2b (sub_I) third (fun _ => ew_var (i := 1) third eI) fifth (fun _ => ew_var (i := 2) fifth eI))) (sw_re (Γ0 := [.is (.fz (eI many)), .is (.fz (eI third)), .is (.fz (eI fifth)), .is (.fz ((eP (aC eI (aC eB aN))) told)), .is (.fz (eS move)), .is (.fz (eI (if (decide (move = (PySem.Str.ofString "L"))) = true then third else (third - fifth)))), .is (.fz (eI told.1)), .is (.fz (eB told.2.1))]) (sw_last (sw_retF (ew_calF (tup_P (by intro _; rfl)) (ew_cons (ew_ifx (ew_truth (f1 := eB) (w := fun z => z) (fun _ => rfl) (ew_var (i := 7) told.2.1 eB)) (ew_op2pb (mod_I) (told.1 + (if (decide (move = (PySem.Str.ofString "L"))) = true then third else (third - fifth))) (fun _ => ew_op2b (add_I) told.1 (fun _ => ew_var (i := 6) told.1 eI) (if (decide (move = (PySem.Str.ofString "L"))) = true then third else (third - fifth)) (fun _ => ew_var (i := 5) (if (decide (move = (PySem.Str.ofString "L"))) = true then third else (third - fifth)) eI)) many (fun _ => ew_var (i := 0) many eI)) (ew_op2pb (mod_I) (told.1 - (if (decide (move = (PySem.Str.ofString "L"))) = true then third else (third - fifth))) (fun _ => ew_op2b (sub_I) told.1 (fun _ => ew_var (i := 6) told.1 eI) (if (decide (move = (PySem.Str.ofString "L"))) = true then third else (third - fifth)) (fun _ => ew_var (i := 5) (if (decide (move = (PySem.Str.ofString "L"))) = true then third else (third - fifth)) eI)) many (fun _ => ew_var (i := 0) many eI))) (fun _ => ew_consp (f1 := eB) (!told.2.1) (fun _ => ew_notV (ew_var (i := 7) told.2.1 eB)) (ew_nil))))))))))))))
theorem n_N_triads_least_moves (many : Int) (third : Int) (fifth : Int) (one1 : (Int × (Bool × Unit))) (other1 : (Int × (Bool × Unit))) : Fn triads.F_least_moves ((aC eI (aC eI (aC eI (aC (eP (aC eI (aC eB aN))) (aC (eP (aC eI (aC eB aN))) aN))))) (many, (third, (fifth, (one1, (other1, ())))))) (N.triads_least_moves many third fifth one1 other1) (eO eS) := fn_of (show SW (ctx0 11 5 ((aC eI (aC eI (aC eI (aC (eP (aC eI (aC eB aN))) (aC (eP (aC eI (aC eB aN))) aN))))) (many, (third, (fifth, (one1, (other1, ()))))))) triads.R_least_moves ((N.triads_need_shape many third fifth).bind fun _ => (N.triads_need_triad many one1).bind fun _ => (N.triads_need_triad many other1).bind fun _ => (whileR 1000000 (fun (st1 : ((Dic (Int × (Bool × Unit)) Str) × (List (Int × (Bool × Unit))))) => (if (!(mGt st1.1 other1).isSome) = true then (neR ((eL (eP (aC eI (aC eB aN)))) st1.2) ((eL (eP (aC eI (aC eB aN)))) [])).bind fun t => .ok t else .ok false).bind fun t2 => .ok t2) (fun (st1 : ((Dic (Int × (Bool × Unit)) Str) × (List (Int × (Bool × Unit))))) => (forR st1.2 (fun (x : (Int × (Bool × Unit))) (st2 : ((Dic (Int × (Bool × Unit)) Str) × (List (Int × (Bool × Unit))))) => (forR (chS (PySem.Str.ofString "LPR")) (fun (x2 : Str) (st3 : ((Dic (Int × (Bool × Unit)) Str) × (List (Int × (Bool × Unit))))) => (N.triads_move_of many third fifth x x2).bind fun more => (if (!(mGt st3.1 more).isSome) = true then (mgR st3.1 x).bind fun t3 => (catS t3 x2).bind fun t4 => (msR st3.1 more t4).bind fun known => (appR st3.2 more).bind fun later => .ok (known, later) else .ok (st3.1, st3.2) : R ((Dic (Int × (Bool × Unit)) Str) × (List (Int × (Bool × Unit))))).bind fun st4 => .ok (st4.1, st4.2)) (st2.1, st2.2)).bind fun so => .ok (so.1, so.2)) (st1.1, [])).bind fun so2 => .ok (so2.1, so2.2)) ([(one1, (PySem.Str.ofString ""))], [one1])).bind fun so3 => .ok (mGt so3.1 other1)) (PF (eO eS)) from
  sw_re (Γ0 := [.is (.fz (eI many)), .is (.fz (eI third)), .is (.fz (eI fifth)), .is (.fz ((eP (aC eI (aC eB aN))) one1)), .is (.fz ((eP (aC eI (aC eB aN))) other1)), .is .un, .is .un, .is .un, .is .un, .is .un, .is .un]) (sw_expr (ew_call (fun (a : Int × Int × Int × Unit) => n_N_triads_need_shape a.1 a.2.1 a.2.2.1) (ew_consv (i := 0) many eI (ew_consv (i := 1) third eI (ew_consv (i := 2) fifth eI (ew_nil))))) (fun _ => sw_re (Γ0 := [.is (.fz (eI many)), .is (.fz (eI third)), .is (.fz (eI fifth)), .is (.fz ((eP (aC eI (aC eB aN))) one1)), .is (.fz ((eP (aC eI (aC eB aN))) other1)), .is .un, .is .un, .is .un, .is .un, .is .un, .is .un]) (sw_expr (ew_call (fun (a : Int × (Int × (Bool × Unit)) × Unit) => n_N_triads_need_triad a.1 a.2.1) (ew_consv (i := 0) many eI (ew_consv (i := 3) one1 (eP (aC eI (aC eB aN))) (ew_nil)))) (fun _ => sw_re (Γ0 := [.is (.fz (eI many)), .is (.fz (eI third)), .is (.fz (eI fifth)), .is (.fz ((eP (aC eI (aC eB aN))) one1)), .is (.fz ((eP (aC eI (aC eB aN))) other1)), .is .un, .is .un, .is .un, .is .un, .is .un, .is .un]) (sw_expr (ew_call (fun (a : Int × (Int × (Bool × Unit)) × Unit) => n_N_triads_need_triad a.1 a.2.1) (ew_consv (i := 0) many eI (ew_consv (i := 4) other1 (eP (aC eI (aC eB aN))) (ew_nil)))) (fun _ => sw_re (Γ0 := [.is (.fz (eI many)), .is (.fz (eI third)), .is (.fz (eI fifth)), .is (.fz ((eP (aC eI (aC eB aN))) one1)), .is (.fz ((eP (aC eI (aC eB aN))) other1)), .is .un, .is .un, .is .un, .is .un, .is .un, .is .un]) (sw_parp [(one1, (PySem.Str.ofString ""))] [one1] (fun _ => ew_xcons (ew_asO (f := oM obB eS) (ew_disp1Bb one1 (fun _ => ew_var (i := 3) one1 (eP (aC eI (aC eB aN)))) (PySem.Str.ofString "") (fun _ => ew_con (PySem.Str.ofString "") eS))) (fun _ => ew_xcons (ew_asT (ew_frzM (ew_calO (new_L (f := (eP (aC eI (aC eB aN)))) (w := fun (p : (Int × (Bool × Unit)) × Unit) => [p.1]) (fun _ => rfl) (fun _ => by simp)) (ew_consv (i := 3) one1 (eP (aC eI (aC eB aN))) (ew_nil))))) (fun _ => ew_xnil))) (sw_re (Γ0 := [.is (.fz (eI many)), .is (.fz (eI third)), .is (.fz (eI fifth)), .is (.fz ((eP (aC eI (aC eB aN))) one1)), .is (.fz ((eP (aC eI (aC eB aN))) other1)), .is (.ow (oM obB eS [(one1, (PySem.Str.ofString ""))])), .is (.fz ((eL (eP (aC eI (aC eB aN)))) [one1])), .is .un, .is .un, .is .un, .is .un]) (sw_while (Δ := fun (st : ((Dic (Int × (Bool × Unit)) Str) × (List (Int × (Bool × Unit))))) => [.is (.fz (eI many)), .is (.fz (eI third)), .is (.fz (eI fifth)), .is (.fz ((eP (aC eI (aC eB aN))) one1)), .is (.fz ((eP (aC eI (aC eB aN))) other1)), .is (.ow (oM obB eS st.1)), .is (.fz ((eL (eP (aC eI (aC eB aN)))) st.2)), .nf, .nf, .nf, .nf]) (cr := fun (st1 : ((Dic (Int × (Bool × Unit)) Str) × (List (Int × (Bool × Unit))))) => (if (!(mGt st1.1 other1).isSome) = true then (neR ((eL (eP (aC eI (aC eB aN)))) st1.2) ((eL (eP (aC eI (aC eB aN)))) [])).bind fun t => .ok t else .ok false).bind fun t2 => .ok t2) (body := fun (st1 : ((Dic (Int × (Bool × Unit)) Str) × (List (Int × (Bool × Unit))))) => (forR st1.2 (fun (x : (Int × (Bool × Unit))) (st2 : ((Dic (Int × (Bool × Unit)) Str) × (List (Int × (Bool × Unit))))) => (forR (chS (PySem.Str.ofString "LPR")) (fun (x2 : Str) (st3 : ((Dic (Int × (Bool × Unit)) Str) × (List (Int × (Bool × Unit))))) => (N.triads_move_of many third fifth x x2).bind fun more => (if (!(mGt st3.1 more).isSome) = true then (mgR st3.1 x).bind fun t3 => (catS t3 x2).bind fun t4 => (msR st3.1 more t4).bind fun known => (appR st3.2 more).bind fun later => .ok (known, later) else .ok (st3.1, st3.2) : R ((Dic (Int × (Bool × Unit)) Str) × (List (Int × (Bool × Unit))))).bind fun st4 => .ok (st4.1, st4.2)) (st2.1, st2.2)).bind fun so => .ok (so.1, so.2)) (st1.1, [])).bind fun so2 => .ok (so2.1, so2.2)) ([(one1, (PySem.Str.ofString ""))], [one1]) (by exact (Le.k (Le.k (Le.k (Le.k (Le.k (Le.k (Le.k (Le.u (Le.u (Le.u (Le.u Le.nil)))))))))))) (fun st1 => ew_andTxp (!(mGt st1.1 other1).isSome) (fun _ => ew_tst (ew_mninp (i := 5) (d := st1.1) (f := eS) kok_B other1 (fun _ => ew_var (i := 4) other1 (eP (aC eI (aC eB aN)))) (.inl rfl))) (ew_tst (ew_op2pb (fun _ _ => ne_V _ _) st1.2 (fun _ => ew_var (i := 6) st1.2 (eL (eP (aC eI (aC eB aN))))) [] (fun _ => ew_frzM (ew_calO (new_L (f := (eP (aC eI (aC eB aN)))) (w := fun (p : Unit) => []) (fun _ => rfl) (fun _ => by simp)) (ew_nil)))))) (fun st1 => sw_re (Γ0 := [.is (.fz (eI many)), .is (.fz (eI third)), .is (.fz (eI fifth)), .is (.fz ((eP (aC eI (aC eB aN))) one1)), .is (.fz ((eP (aC eI (aC eB aN))) other1)), .is (.ow (oM obB eS st1.1)), .is (.fz ((eL (eP (aC eI (aC eB aN)))) st1.2)), .nf, .nf, .nf, .nf]) (sw_setOp (f := oL (eP (aC eI (aC eB aN)))) [] (fun _ => ew_calO (new_L (f := (eP (aC eI (aC eB aN)))) (w := fun (p : Unit) => []) (fun _ => rfl) (fun _ => by simp)) (ew_nil)) (sw_re (Γ0 := [.is (.fz (eI many)), .is (.fz (eI third)), .is (.fz (eI fifth)), .is (.fz ((eP (aC eI (aC eB aN))) one1)), .is (.fz ((eP (aC eI (aC eB aN))) other1)), .is (.ow (oM obB eS st1.1)), .is (.fz ((eL (eP (aC eI (aC eB aN)))) st1.2)), .is (.ow (oL (eP (aC eI (aC eB aN))) [])), .nf, .nf, .nf]) (sw_for (fx := (eP (aC eI (aC eB aN)))) (Δ := fun (st : ((Dic (Int × (Bool × Unit)) Str) × (List (Int × (Bool × Unit))))) => [.is (.fz (eI many)), .is (.fz (eI third)), .is (.fz (eI fifth)), .is (.fz ((eP (aC eI (aC eB aN))) one1)), .is (.fz ((eP (aC eI (aC eB aN))) other1)), .is (.ow (oM obB eS st.1)), .is (.fz ((eL (eP (aC eI (aC eB aN)))) st1.2)), .is (.ow (oL (eP (aC eI (aC eB aN))) st.2)), .nf, .nf, .nf]) (Γ1 := fun (x : (Int × (Bool × Unit))) (st2 : ((Dic (Int × (Bool × Unit)) Str) × (List (Int × (Bool × Unit))))) => [.is (.fz (eI many)), .is (.fz (eI third)), .is (.fz (eI fifth)), .is (.fz ((eP (aC eI (aC eB aN))) one1)), .is (.fz ((eP (aC eI (aC eB aN))) other1)), .is (.ow (oM obB eS st2.1)), .is (.fz ((eL (eP (aC eI (aC eB aN)))) st1.2)), .is (.ow (oL (eP (aC eI (aC eB aN))) st2.2)), .is (.fz ((eP (aC eI (aC eB aN))) x)), .nf, .nf]) (body := fun (x : (Int × (Bool × Unit))) (st2 : ((Dic (Int × (Bool × Unit)) Str) × (List (Int × (Bool × Unit))))) => (forR (chS (PySem.Str.ofString "LPR")) (fun (x2 : Str) (st3 : ((Dic (Int × (Bool × Unit)) Str) × (List (Int × (Bool × Unit))))) => (N.triads_move_of many third fifth x x2).bind fun more => (if (!(mGt st3.1 more).isSome) = true then (mgR st3.1 x).bind fun t3 => (catS t3 x2).bind fun t4 => (msR st3.1 more t4).bind fun known => (appR st3.2 more).bind fun later => .ok (known, later) else .ok (st3.1, st3.2) : R ((Dic (Int × (Bool × Unit)) Str) × (List (Int × (Bool × Unit))))).bind fun st4 => .ok (st4.1, st4.2)) (st2.1, st2.2)).bind fun so => .ok (so.1, so.2)) (st1.1, []) (ew_iLA (ew_var (i := 6) st1.2 (eL (eP (aC eI (aC eB aN)))))) (by exact (Le.k (Le.k (Le.k (Le.k (Le.k (Le.k (Le.k (Le.k (Le.k (Le.k (Le.k Le.nil)))))))))))) (fun x st2 => gw_n) (fun x st2 => sw_re (Γ0 := [.is (.fz (eI many)), .is (.fz (eI third)), .is (.fz (eI fifth)), .is (.fz ((eP (aC eI (aC eB aN))) one1)), .is (.fz ((eP (aC eI (aC eB aN))) other1)), .is (.ow (oM obB eS st2.1)), .is (.fz ((eL (eP (aC eI (aC eB aN)))) st1.2)), .is (.ow (oL (eP (aC eI (aC eB aN))) st2.2)), .is (.fz ((eP (aC eI (aC eB aN))) x)), .nf, .nf]) (sw_last (sw_for (fx := eS) (Δ := fun (st : ((Dic (Int × (Bool × Unit)) Str) × (List (Int × (Bool × Unit))))) => [.is (.fz (eI many)), .is (.fz (eI third)), .is (.fz (eI fifth)), .is (.fz ((eP (aC eI (aC eB aN))) one1)), .is (.fz ((eP (aC eI (aC eB aN))) other1)), .is (.ow (oM obB eS st.1)), .is (.fz ((eL (eP (aC eI (aC eB aN)))) st1.2)), .is (.ow (oL (eP (aC eI (aC eB aN))) st.2)), .is (.fz ((eP (aC eI (aC eB aN))) x)), .nf, .nf]) (Γ1 := fun (x2 : Str) (st3 : ((Dic (Int × (Bool × Unit)) Str) × (List (Int × (Bool × Unit))))) => [.is (.fz (eI many)), .is (.fz (eI third)), .is (.fz (eI fifth)), .is (.fz ((eP (aC eI (aC eB aN))) one1)), .is (.fz ((eP (aC eI (aC eB aN))) other1)), .is (.ow (oM obB eS st3.1)), .is (.fz ((eL (eP (aC eI (aC eB aN)))) st1.2)), .is (.ow (oL (eP (aC eI (aC eB aN))) st3.2)), .is (.fz ((eP (aC eI (aC eB aN))) x)), .is (.fz (eS x2)), .nf]) (body := fun (x2 : Str) (st3 : ((Dic (Int × (Bool × Unit)) Str) × (List (Int × (Bool × Unit))))) => (N.triads_move_of many third fifth x x2).bind fun more => (if (!(mGt st3.1 more).isSome) = true then (mgR st3.1 x).bind fun t3 => (catS t3 x2).bind fun t4 => (msR st3.1 more t4).bind fun known => (appR st3.2 more).bind fun later => .ok (known, later) else .ok (st3.1, st3.2) : R ((Dic (Int × (Bool × Unit)) Str) × (List (Int × (Bool × Unit))))).bind fun st4 => .ok (st4.1, st4.2)) (st2.1, st2.2) (ew_iSA (ew_con (PySem.Str.ofString "LPR") eS)) (by exact (Le.k (Le.k (Le.k (Le.k (Le.k (Le.k (Le.k (Le.k (Le.k (Le.k (Le.k Le.nil)))))))))))) (fun x2 st3 => gw_n) (fun x2 st3 => sw_re (Γ0 := [.is (.fz (eI many)), .is (.fz (eI third)), .is (.fz (eI fifth)), .is (.fz ((eP (aC eI (aC eB aN))) one1)), .is (.fz ((eP (aC eI (aC eB aN))) other1)), .is (.ow (oM obB eS st3.1)), .is (.fz ((eL (eP (aC eI (aC eB aN)))) st1.2)), .is (.ow (oL (eP (aC eI (aC eB aN))) st3.2)), .is (.fz ((eP (aC eI (aC eB aN))) x)), .is (.fz (eS x2)), .nf]) (sw_set (ew_call (fun (a : Int × Int × Int × (Int × (Bool × Unit)) × Str × Unit) => n_N_triads_move_of a.1 a.2.1 a.2.2.1 a.2.2.2.1 a.2.2.2.2.1) (ew_consv (i := 0) many eI (ew_consv (i := 1) third eI (ew_consv (i := 2) fifth eI (ew_consv (i := 8) x (eP (aC eI (aC eB aN))) (ew_consv (i := 9) x2 eS (ew_nil))))))) (fun more => sw_re (Γ0 := [.is (.fz (eI many)), .is (.fz (eI third)), .is (.fz (eI fifth)), .is (.fz ((eP (aC eI (aC eB aN))) one1)), .is (.fz ((eP (aC eI (aC eB aN))) other1)), .is (.ow (oM obB eS st3.1)), .is (.fz ((eL (eP (aC eI (aC eB aN)))) st1.2)), .is (.ow (oL (eP (aC eI (aC eB aN))) st3.2)), .is (.fz ((eP (aC eI (aC eB aN))) x)), .is (.fz (eS x2)), .is (.fz ((eP (aC eI (aC eB aN))) more))]) (sw_last (sw_ifjp (!(mGt st3.1 more).isSome) (fun _ => ew_tst (ew_mninp (i := 5) (d := st3.1) (f := eS) kok_B more (fun _ => ew_var (i := 10) more (eP (aC eI (aC eB aN)))) (.inl rfl))) (sw_re (Γ0 := [.is (.fz (eI many)), .is (.fz (eI third)), .is (.fz (eI fifth)), .is (.fz ((eP (aC eI (aC eB aN))) one1)), .is (.fz ((eP (aC eI (aC eB aN))) other1)), .is (.ow (oM obB eS st3.1)), .is (.fz ((eL (eP (aC eI (aC eB aN)))) st1.2)), .is (.ow (oL (eP (aC eI (aC eB aN))) st3.2)), .is (.fz ((eP (aC eI (aC eB aN))) x)), .is (.fz (eS x2)), .is (.fz ((eP (aC eI (aC eB aN))) more))]) (sw_setMk (i := 5) (d := st3.1) (f := eS) kok_B more (ew_op2pr (add_S) x2 (fun _ => ew_var (i := 9) x2 eS) (ew_mgp (i := 5) (d := st3.1) (f := eS) kok_B x (.inl rfl) (fun _ => ew_var (i := 8) x (eP (aC eI (aC eB aN)))) (.inl rfl))) rfl (fun _ => ew_var (i := 10) more (eP (aC eI (aC eB aN)))) rfl (fun known => sw_re (Γ0 := [.is (.fz (eI many)), .is (.fz (eI third)), .is (.fz (eI fifth)), .is (.fz ((eP (aC eI (aC eB aN))) one1)), .is (.fz ((eP (aC eI (aC eB aN))) other1)), .is (.ow (oM obB eS known)), .is (.fz ((eL (eP (aC eI (aC eB aN)))) st1.2)), .is (.ow (oL (eP (aC eI (aC eB aN))) st3.2)), .is (.fz ((eP (aC eI (aC eB aN))) x)), .is (.fz (eS x2)), .is (.fz ((eP (aC eI (aC eB aN))) more))]) (sw_last (sw_app (i := 7) (xs := st3.2) (f := (eP (aC eI (aC eB aN)))) rfl (ew_var (i := 10) more (eP (aC eI (aC eB aN)))) rfl (fun later => sw_endN (Δ := fun (st : ((Dic (Int × (Bool × Unit)) Str) × (List (Int × (Bool × Unit))))) => [.is (.fz (eI many)), .is (.fz (eI third)), .is (.fz (eI fifth)), .is (.fz ((eP (aC eI (aC eB aN))) one1)), .is (.fz ((eP (aC eI (aC eB aN))) other1)), .is (.ow (oM obB eS st.1)), .is (.fz ((eL (eP (aC eI (aC eB aN)))) st1.2)), .is (.ow (oL (eP (aC eI (aC eB aN))) st.2)), .is (.fz ((eP (aC eI (aC eB aN))) x)), .is (.fz (eS x2)), .is (.fz ((eP (aC eI (aC eB aN))) more))]) (known, later) (by exact (Le.k (Le.k (Le.k (Le.k (Le.k (Le.k (Le.k (Le.k (Le.k (Le.k (Le.k Le.nil)))))))))))))))))) (sw_endN (Δ := fun (st : ((Dic (Int × (Bool × Unit)) Str) × (List (Int × (Bool × Unit))))) => [.is (.fz (eI many)), .is (.fz (eI third)), .is (.fz (eI fifth)), .is (.fz ((eP (aC eI (aC eB aN))) one1)), .is (.fz ((eP (aC eI (aC eB aN))) other1)), .is (.ow (oM obB eS st.1)), .is (.fz ((eL (eP (aC eI (aC eB aN)))) st1.2)), .is (.ow (oL (eP (aC eI (aC eB aN))) st.2)), .is (.fz ((eP (aC eI (aC eB aN))) x)), .is (.fz (eS x2)), .is (.fz ((eP (aC eI (aC eB aN))) more))]) (st3.1, st3.2) (by exact (Le.k (Le.k (Le.k (Le.k (Le.k (Le.k (Le.k (Le.k (Le.k (Le.k (Le.k Le.nil))))))))))))) (fun st4 => sw_endL (Δ := fun (st : ((Dic (Int × (Bool × Unit)) Str) × (List (Int × (Bool × Unit))))) => [.is (.fz (eI many)), .is (.fz (eI third)), .is (.fz (eI fifth)), .is (.fz ((eP (aC eI (aC eB aN))) one1)), .is (.fz ((eP (aC eI (aC eB aN))) other1)), .is (.ow (oM obB eS st.1)), .is (.fz ((eL (eP (aC eI (aC eB aN)))) st1.2)), .is (.ow (oL (eP (aC eI (aC eB aN))) st.2)), .is (.fz ((eP (aC eI (aC eB aN))) x)), .nf, .nf]) (st4.1, st4.2) (by exact (Le.k (Le.k (Le.k (Le.k (Le.k (Le.k (Le.k (Le.k (Le.k (Le.n (Le.n Le.nil)))))))))))))))))) (fun so => sw_endL (Δ := fun (st : ((Dic (Int × (Bool × Unit)) Str) × (List (Int × (Bool × Unit))))) => [.is (.fz (eI many)), .is (.fz (eI third)), .is (.fz (eI fifth)), .is (.fz ((eP (aC eI (aC eB aN))) one1)), .is (.fz ((eP (aC eI (aC eB aN))) other1)), .is (.ow (oM obB eS st.1)), .is (.fz ((eL (eP (aC eI (aC eB aN)))) st1.2)), .is (.ow (oL (eP (aC eI (aC eB aN))) st.2)), .nf, .nf, .nf]) (so.1, so.2) (by exact (Le.k (Le.k (Le.k (Le.k (Le.k (Le.k (Le.k (Le.k (Le.n (Le.k (Le.k Le.nil)))))))))))))))) (fun so2 => sw_re (Γ0 := [.is (.fz (eI many)), .is (.fz (eI third)), .is (.fz (eI fifth)), .is (.fz ((eP (aC eI (aC eB aN))) one1)), .is (.fz ((eP (aC eI (aC eB aN))) other1)), .is (.ow (oM obB eS so2.1)), .is (.fz ((eL (eP (aC eI (aC eB aN)))) st1.2)), .is (.ow (oL (eP (aC eI (aC eB aN))) so2.2)), .nf, .nf, .nf]) (sw_last (sw_setp so2.2 (fun _ => ew_frz (i := 7) so2.2 (eL (eP (aC eI (aC eB aN))))) (sw_endL (Δ := fun (st : ((Dic (Int × (Bool × Unit)) Str) × (List (Int × (Bool × Unit))))) => [.is (.fz (eI many)), .is (.fz (eI third)), .is (.fz (eI fifth)), .is (.fz ((eP (aC eI (aC eB aN))) one1)), .is (.fz ((eP (aC eI (aC eB aN))) other1)), .is (.ow (oM obB eS st.1)), .is (.fz ((eL (eP (aC eI (aC eB aN)))) st.2)), .nf, .nf, .nf, .nf]) (so2.1, so2.2) (by exact (Le.k (Le.k (Le.k (Le.k (Le.k (Le.k (Le.k (Le.n (Le.k (Le.k (Le.k Le.nil)))))))))))))))))))) (fun so3 => sw_re (Γ0 := [.is (.fz (eI many)), .is (.fz (eI third)), .is (.fz (eI fifth)), .is (.fz ((eP (aC eI (aC eB aN))) one1)), .is (.fz ((eP (aC eI (aC eB aN))) other1)), .is (.ow (oM obB eS so3.1)), .is (.fz ((eL (eP (aC eI (aC eB aN)))) so3.2)), .nf, .nf, .nf, .nf]) (sw_last (sw_retF (ew_mg1p (i := 5) (d := so3.1) (f := eS) kok_B other1 (.inl rfl) (fun _ => ew_var (i := 4) other1 (eP (aC eI (aC eB aN)))) (.inl rfl)))))))))))))))
theorem n_N_limits_common (one1 : Int) (other1 : Int) : Fn limits.F_common ((aC eI (aC eI aN)) (one1, (other1, ()))) (N.limits_common one1 other1) eI := fn_of (show SW (ctx0 2 2 ((aC eI (aC eI aN)) (one1, (other1, ())))) limits.R_common ((whileR 1000000 (fun (st1 : (Int × Int)) => .ok (!decide (st1.2 = (0 : Int)))) (fun (st1 : (Int × Int)) => (modR st1.1 st1.2).bind fun t => .ok (st1.2, t)) ((absI one1), (absI other1))).bind fun so => .ok so.1) (PF eI) from
  sw_re (Γ0 := [.is (.fz (eI one1)), .is (.fz (eI other1))]) (sw_parp (absI one1) (absI other1) (fun _ => ew_xcons (ew_asT (ew_calF abs_I (ew_consv (i := 0) one1 eI (ew_nil)))) (fun _ => ew_xcons (ew_asT (ew_calF abs_I (ew_consv (i := 1) other1 eI (ew_nil)))) (fun _ => ew_xnil))) (sw_re (Γ0 := [.is (.fz (eI (absI one1))), .is (.fz (eI (absI other1)))]) (sw_while (Δ := fun (st : (Int × Int)) => [.is (.fz (eI st.1)), .is (.fz (eI st.2))]) (cr := fun (st1 : (Int × Int)) => .ok (!decide (st1.2 = (0 : Int)))) (body := fun (st1 : (Int × Int)) => (modR st1.1 st1.2).bind fun t => .ok (st1.2, t)) ((absI one1), (absI other1)) (by exact (Le.k (Le.k Le.nil))) (fun st1 => ew_tst (ew_op2b (ne_of' eqc_I) st1.2 (fun _ => ew_var (i := 1) st1.2 eI) (0 : Int) (fun _ => ew_con (0 : Int) eI))) (fun st1 => sw_re (Γ0 := [.is (.fz (eI st1.1)), .is (.fz (eI st1.2))]) (sw_last (sw_par (ew_xcons (ew_asT (ew_var (i := 1) st1.2 eI)) (fun _ => ew_xcons (ew_asT (ew_op2pb (mod_I) st1.1 (fun _ => ew_var (i := 0) st1.1 eI) st1.2 (fun _ => ew_var (i := 1) st1.2 eI))) (fun _ => ew_xnil))) (fun one2 other2 => sw_endL (Δ := fun (st : (Int × Int)) => [.is (.fz (eI st.1)), .is (.fz (eI st.2))]) (one2, other2) (by exact (Le.k (Le.k Le.nil))))))) (fun so => sw_re (Γ0 := [.is (.fz (eI so.1)), .is (.fz (eI so.2))]) (sw_last (sw_retF (ew_var (i := 0) so.1 eI))))))))
theorem n_N_triads_reached (many : Int) (third : Int) (fifth : Int) : Fn triads.F_reached ((aC eI (aC eI (aC eI aN))) (many, (third, (fifth, ())))) (N.triads_reached many third fifth) eI := fn_of (show SW (ctx0 4 3 ((aC eI (aC eI (aC eI aN))) (many, (third, (fifth, ()))))) triads.R_reached ((N.triads_need_shape many third fifth).bind fun _ => (N.limits_common third fifth).bind fun c2 => (N.limits_common c2 many).bind fun step => (divR many step).bind fun t => (mulR (2 : Int) t).bind fun t2 => .ok t2) (PF eI) from
  sw_re (Γ0 := [.is (.fz (eI many)), .is (.fz (eI third)), .is (.fz (eI fifth)), .is .un]) (sw_expr (ew_call (fun (a : Int × Int × Int × Unit) => n_N_triads_need_shape a.1 a.2.1 a.2.2.1) (ew_consv (i := 0) many eI (ew_consv (i := 1) third eI (ew_consv (i := 2) fifth eI (ew_nil))))) (fun _ => sw_re (Γ0 := [.is (.fz (eI many)), .is (.fz (eI third)), .is (.fz (eI fifth)), .is .un]) (sw_set (ew_call (fun (a : Int × Int × Unit) => n_N_limits_common a.1 a.2.1) (ew_cons (ew_call (fun (a : Int × Int × Unit) => n_N_limits_common a.1 a.2.1) (ew_consv (i := 1) third eI (ew_consv (i := 2) fifth eI (ew_nil)))) (fun _ => ew_consv (i := 0) many eI (ew_nil)))) (fun step => sw_re (Γ0 := [.is (.fz (eI many)), .is (.fz (eI third)), .is (.fz (eI fifth)), .is (.fz (eI step))]) (sw_last (sw_retF (ew_op2pl (mul_I) (2 : Int) (fun _ => ew_con (2 : Int) eI) (ew_op2pb (div_I) many (fun _ => ew_var (i := 0) many eI) step (fun _ => ew_var (i := 3) step eI))))))))))
theorem n_N_triads_need_moves (value : Str) : Fn triads.F_need_moves ((aC eS aN) (value, ())) (N.triads_need_moves value) eU := fn_of (show SW (ctx0 2 1 ((aC eS aN) (value, ()))) triads.R_need_moves ((if (!true) = true then .ok true else (lenS value).bind fun n => (if (decide (n > (200 : Int))) = true then .ok true else (cmpR (chS value) (fun _ => .ok true) fun (sign : Str) => (inSR sign (PySem.Str.ofString "PLR")).bind fun t => .ok t).bind fun l => .ok (!(l.all idB))).bind fun t2 => .ok t2).bind fun t3 => if t3 = true then .bad else .ok ()) (PF eU) from
  sw_re (Γ0 := [.is (.fz (eS value)), .is .un]) (sw_last (sw_if (ew_orTxp (!true) (fun _ => ew_notT (ew_truth (f1 := eB) (w := fun z => z) (fun _ => rfl) (ew_op1 (w := fun _ => true) (f := eB) (fun _ => rfl) (ew_var (i := 0) value eS)))) (ew_orTx (ew_tst (ew_op2r (gt_I) (200 : Int) (fun _ => ew_con (200 : Int) eI) (ew_lenS (i := 0) (z := value)))) (ew_notT (ew_truth (f1 := eB) (w := fun z => z) (fun _ => rfl) (ew_calF all_L (ew_cons (ew_frzM (ew_lcX (fx := eS) (fe := eB) (e := fun (sign : Str) => (inSR sign (PySem.Str.ofString "PLR")).bind fun t => .ok t) (Γ' := [.is (.fz (eS value)), .is .un]) (sl := fun (sign : Str) => [(1, .is (.fz (eS sign)))]) (ew_iSA (ew_var (i := 0) value eS)) (by rfl) (fun sign => gw_n) (fun _ => by rfl) (fun sign => ew_inS (ew_var (i := 1) sign eS) (fun _ => ew_con (PySem.Str.ofString "PLR") eS)))) (fun _ => ew_nil))))))) (sw_re (Γ0 := [.is (.fz (eS value)), .is .un]) (sw_bad)) (sw_skip (sw_endF ())))))
theorem n_N_triads_walked (many : Int) (third : Int) (fifth : Int) (told : (Int × (Bool × Unit))) (moves : Str) : Fn triads.F_walked ((aC eI (aC eI (aC eI (aC (eP (aC eI (aC eB aN))) (aC eS aN))))) (many, (third, (fifth, (told, (moves, ())))))) (N.triads_walked many third fifth told moves) (eP (aC eI (aC eB aN))) := fn_of (show SW (ctx0 6 5 ((aC eI (aC eI (aC eI (aC (eP (aC eI (aC eB aN))) (aC eS aN))))) (many, (third, (fifth, (told, (moves, ()))))))) triads.R_walked ((forR (chS moves) (fun (x : Str) (st1 : (Int × (Bool × Unit))) => (N.triads_move_of many third fifth st1 x).bind fun told2 => .ok told2) told).bind fun so => .ok so) (PF (eP (aC eI (aC eB aN)))) from
  sw_re (Γ0 := [.is (.fz (eI many)), .is (.fz (eI third)), .is (.fz (eI fifth)), .is (.fz ((eP (aC eI (aC eB aN))) told)), .is (.fz (eS moves)), .is .un]) (sw_for (fx := eS) (Δ := fun (st : (Int × (Bool × Unit))) => [.is (.fz (eI many)), .is (.fz (eI third)), .is (.fz (eI fifth)), .is (.fz ((eP (aC eI (aC eB aN))) st)), .is (.fz (eS moves)), .nf]) (Γ1 := fun (x : Str) (st1 : (Int × (Bool × Unit))) => [.is (.fz (eI many)), .is (.fz (eI third)), .is (.fz (eI fifth)), .is (.fz ((eP (aC eI (aC eB aN))) st1)), .is (.fz (eS moves)), .is (.fz (eS x))]) (body := fun (x : Str) (st1 : (Int × (Bool × Unit))) => (N.triads_move_of many third fifth st1 x).bind fun told2 => .ok told2) told (ew_iSA (ew_var (i := 4) moves eS)) (by exact (Le.k (Le.k (Le.k (Le.k (Le.k (Le.u Le.nil))))))) (fun x st1 => gw_n) (fun x st1 => sw_re (Γ0 := [.is (.fz (eI many)), .is (.fz (eI third)), .is (.fz (eI fifth)), .is (.fz ((eP (aC eI (aC eB aN))) st1)), .is (.fz (eS moves)), .is (.fz (eS x))]) (sw_last (sw_set (ew_call (fun (a : Int × Int × Int × (Int × (Bool × Unit)) × Str × Unit) => n_N_triads_move_of a.1 a.2.1 a.2.2.1 a.2.2.2.1 a.2.2.2.2.1) (ew_consv (i := 0) many eI (ew_consv (i := 1) third eI (ew_consv (i := 2) fifth eI (ew_consv (i := 3) st1 (eP (aC eI (aC eB aN))) (ew_consv (i := 5) x eS (ew_nil))))))) (fun told2 => sw_endL (Δ := fun (st : (Int × (Bool × Unit))) => [.is (.fz (eI many)), .is (.fz (eI third)), .is (.fz (eI fifth)), .is (.fz ((eP (aC eI (aC eB aN))) st)), .is (.fz (eS moves)), .nf]) told2 (by exact (Le.k (Le.k (Le.k (Le.k (Le.k (Le.n Le.nil))))))))))) (fun so => sw_re (Γ0 := [.is (.fz (eI many)), .is (.fz (eI third)), .is (.fz (eI fifth)), .is (.fz ((eP (aC eI (aC eB aN))) so)), .is (.fz (eS moves)), .nf]) (sw_last (sw_retF (ew_var (i := 3) so (eP (aC eI (aC eB aN)))))))))
theorem n_N_triads_walk (many : Int) (third : Int) (fifth : Int) (told : (Int × (Bool × Unit))) (moves : Str) : Fn triads.F_walk ((aC eI (aC eI (aC eI (aC (eP (aC eI (aC eB aN))) (aC eS aN))))) (many, (third, (fifth, (told, (moves, ())))))) (N.triads_walk many third fifth told moves) (eP (aC eI (aC eB aN))) := fn_of (show SW (ctx0 5 5 ((aC eI (aC eI (aC eI (aC (eP (aC eI (aC eB aN))) (aC eS aN))))) (many, (third, (fifth, (told, (moves, ()))))))) triads.R_walk ((N.triads_need_shape many third fifth).bind fun _ => (N.triads_need_triad many told).bind fun _ => (N.triads_need_moves moves).bind fun _ => (N.triads_walked many third fifth told moves).bind fun c4 => .ok c4) (PF (eP (aC eI (aC eB aN)))) from
  sw_re (Γ0 := [.is (.fz (eI many)), .is (.fz (eI third)), .is (.fz (eI fifth)), .is (.fz ((eP (aC eI (aC eB aN))) told)), .is (.fz (eS moves))]) (sw_expr (ew_call (fun (a : Int × Int × Int × Unit) => n_N_triads_need_shape a.1 a.2.1 a.2.2.1) (ew_consv (i := 0) many eI (ew_consv (i := 1) third eI (ew_consv (i := 2) fifth eI (ew_nil))))) (fun _ => sw_re (Γ0 := [.is (.fz (eI many)), .is (.fz (eI third)), .is (.fz (eI fifth)), .is (.fz ((eP (aC eI (aC eB aN))) told)), .is (.fz (eS moves))]) (sw_expr (ew_call (fun (a : Int × (Int × (Bool × Unit)) × Unit) => n_N_triads_need_triad a.1 a.2.1) (ew_consv (i := 0) many eI (ew_consv (i := 3) told (eP (aC eI (aC eB aN))) (ew_nil)))) (fun _ => sw_re (Γ0 := [.is (.fz (eI many)), .is (.fz (eI third)), .is (.fz (eI fifth)), .is (.fz ((eP (aC eI (aC eB aN))) told)), .is (.fz (eS moves))]) (sw_expr (ew_call (fun (a : Str × Unit) => n_N_triads_need_moves a.1) (ew_consv (i := 4) moves eS (ew_nil))) (fun _ => sw_re (Γ0 := [.is (.fz (eI many)), .is (.fz (eI third)), .is (.fz (eI fifth)), .is (.fz ((eP (aC eI (aC eB aN))) told)), .is (.fz (eS moves))]) (sw_last (sw_retF (ew_call (fun (a : Int × Int × Int × (Int × (Bool × Unit)) × Str × Unit) => n_N_triads_walked a.1 a.2.1 a.2.2.1 a.2.2.2.1 a.2.2.2.2.1) (ew_consv (i := 0) many eI (ew_consv (i := 1) third eI (ew_consv (i := 2) fifth eI (ew_consv (i := 3) told (eP (aC eI (aC eB aN))) (ew_consv (i := 4) moves eS (ew_nil))))))))))))))))
theorem n_N_law (script : (List Int)) : Fn lw.F_law ((aC (eZ eI) aN) (script, ())) (N.law script) eB := fn_of (show SW (ctx0 14 1 ((aC (eZ eI) aN) (script, ()))) lw.R_law (((N._law_triads ).noX).bind fun p1 => ((N._law_taken p1.1).noX).bind fun d => ((N._law_taken (2 : Int)).noX).bind fun d2 => ((N._law_taken p1.1).noX).bind fun d3 => ((N._law_taken (2 : Int)).noX).bind fun d4 => (whileR 1000000 (fun (st1 : ((Dic (Int × (Bool × Unit)) Str) × (List (Int × (Bool × Unit))))) => (neR ((eL (eP (aC eI (aC eB aN)))) st1.2) ((eL (eP (aC eI (aC eB aN)))) [])).bind fun t => .ok t) (fun (st1 : ((Dic (Int × (Bool × Unit)) Str) × (List (Int × (Bool × Unit))))) => (forR st1.2 (fun (x : (Int × (Bool × Unit))) (st2 : ((Dic (Int × (Bool × Unit)) Str) × (List (Int × (Bool × Unit))))) => (forR [(PySem.Str.ofString "L"), (PySem.Str.ofString "P"), (PySem.Str.ofString "R")] (fun (x2 : Str) (st3 : ((Dic (Int × (Bool × Unit)) Str) × (List (Int × (Bool × Unit))))) => (N._law_move p1.1 p1.2.1 p1.2.2.1 x x2).bind fun more => (if (!(mGt st3.1 more).isSome) = true then (mgR st3.1 x).bind fun t2 => (catS t2 x2).bind fun t3 => (msR st3.1 more t3).bind fun known => (appR st3.2 more).bind fun later => .ok (known, later) else .ok (st3.1, st3.2) : R ((Dic (Int × (Bool × Unit)) Str) × (List (Int × (Bool × Unit))))).bind fun st4 => .ok (st4.1, st4.2)) (st2.1, st2.2)).bind fun so => .ok (so.1, so.2)) (st1.1, [])).bind fun so2 => .ok (so2.1, so2.2)) ([((d, (decide (d2 = (0 : Int))), ()), (PySem.Str.ofString ""))], [(d, (decide (d2 = (0 : Int))), ())])).bind fun so3 => (N.triads_least_moves p1.1 p1.2.1 p1.2.2.1 (d, (decide (d2 = (0 : Int))), ()) (d3, (decide (d4 = (0 : Int))), ())).bind fun found => (alikeR (eO eS) found (mGt so3.1 (d3, (decide (d4 = (0 : Int))), ()))).bind fun b1 => (if (!b1) = true then .ok true else (N.triads_reached p1.1 p1.2.1 p1.2.2.1).bind fun c4 => (alikeR eI c4 (so3.1.length : Int)).bind fun b2 => .ok (!b2)).bind fun t4 => if t4 = true then .ok false else if found.isSome = true then (unO found).bind fun u => (N.triads_walk p1.1 p1.2.1 p1.2.2.1 (d, (decide (d2 = (0 : Int))), ()) u).bind fun c5 => (neR ((eP (aC eI (aC eB aN))) c5) ((eP (aC eI (aC eB aN))) (d3, (decide (d4 = (0 : Int))), ()))).bind fun t5 => if t5 = true then .ok false else (forC (mK so3.1) (fun (x3 : (Int × (Bool × Unit))) (st5 : Unit) => (forC [(PySem.Str.ofString "L"), (PySem.Str.ofString "P"), (PySem.Str.ofString "R")] (fun (x4 : Str) (st6 : Unit) => (mgR so3.1 x3).bind fun t6 => (lenS t6).bind fun n => (unO found).bind fun u2 => (lenS u2).bind fun n2 => (if (decide (n = (n2 - (1 : Int)))) = true then (N._law_move p1.1 p1.2.1 p1.2.2.1 x3 x4).bind fun c6 => (eqR ((eP (aC eI (aC eB aN))) c6) ((eP (aC eI (aC eB aN))) (d3, (decide (d4 = (0 : Int))), ()))).bind fun t7 => (if t7 = true then (mgR so3.1 x3).bind fun t8 => (catS t8 x4).bind fun t9 => (unO found).bind fun u3 => .ok (ltD PyData.str t9 u3) else .ok false).bind fun t10 => .ok t10 else .ok false).bind fun t11 => if t11 = true then .ok (.rt false) else .ok (.nx ())) () : R (Lp Unit Bool)).bind fun lp => match lp with | .nx so4 => (.ok (.nx ())) | .rt b => .ok (.rt b)) () : R (Lp Unit Bool)).bind fun lp => match lp with | .nx so5 => (.ok true) | .rt b => .ok b else .ok true) (PF eB) from
  sw_re (Γ0 := [.is (.fz ((eZ eI) script)), .is .un, .is .un, .is .un, .is .un, .is .un, .is .un, .is .un, .is .un, .is .un, .is .un, .is .un, .is .un, .is .un]) (sw_row (j := 0) (cs := script) rfl (by decide) (by decide) (by rfl) (sw_re (Γ0 := [.is (.fz ((eZ eI) script)), .row false, .is .un, .is .un, .is .un, .is .un, .is .un, .is .un, .is .un, .is .un, .is .un, .is .un, .is .un, .is .un]) (sw_asg (ew_callM (i := 1) (fun (a : Unit) => n_N__law_triads ) (ew_nil)) (fun p1 => gw_t (gs_cons (gw_n) (gs_cons (gw_n) (gs_cons (gw_n) (gs_nil))))) (fun p1 => sw_re (Γ0 := [.is (.fz ((eZ eI) script)), .row false, .is .un, .is (.fz (eI p1.1)), .is (.fz (eI p1.2.1)), .is (.fz (eI p1.2.2.1)), .is .un, .is .un, .is .un, .is .un, .is .un, .is .un, .is .un, .is .un]) (sw_par (ew_xcons (ew_asT (ew_calF (tup_P (by intro _; rfl)) (ew_cons (ew_callM (i := 1) (fun (a : Int × Unit) => n__law_taken a.1) (ew_consv (i := 3) p1.1 eI (ew_nil))) (fun _ => ew_cons (ew_op2r (eq_of eqc_I) (0 : Int) (fun _ => ew_con (0 : Int) eI) (ew_callM (i := 1) (fun (a : Int × Unit) => n__law_taken a.1) (ew_consc (2 : Int) eI (ew_nil)))) (fun _ => ew_nil))))) (fun _ => ew_xcons (ew_asT (ew_calF (tup_P (by intro _; rfl)) (ew_cons (ew_callM (i := 1) (fun (a : Int × Unit) => n__law_taken a.1) (ew_consv (i := 3) p1.1 eI (ew_nil))) (fun _ => ew_cons (ew_op2r (eq_of eqc_I) (0 : Int) (fun _ => ew_con (0 : Int) eI) (ew_callM (i := 1) (fun (a : Int × Unit) => n__law_taken a.1) (ew_consc (2 : Int) eI (ew_nil)))) (fun _ => ew_nil))))) (fun _ => ew_xnil))) (fun one1 other1 => sw_re (Γ0 := [.is (.fz ((eZ eI) script)), .row false, .is .un, .is (.fz (eI p1.1)), .is (.fz (eI p1.2.1)), .is (.fz (eI p1.2.2.1)), .is (.fz ((eP (aC eI (aC eB aN))) one1)), .is (.fz ((eP (aC eI (aC eB aN))) other1)), .is .un, .is .un, .is .un, .is .un, .is .un, .is .un]) (sw_parp [(one1, (PySem.Str.ofString ""))] [one1] (fun _ => ew_xcons (ew_asO (f := oM obB eS) (ew_disp1Bb one1 (fun _ => ew_var (i := 6) one1 (eP (aC eI (aC eB aN)))) (PySem.Str.ofString "") (fun _ => ew_con (PySem.Str.ofString "") eS))) (fun _ => ew_xcons (ew_asT (ew_frzM (ew_calO (new_L (f := (eP (aC eI (aC eB aN)))) (w := fun (p : (Int × (Bool × Unit)) × Unit) => [p.1]) (fun _ => rfl) (fun _ => by simp)) (ew_consv (i := 6) one1 (eP (aC eI (aC eB aN))) (ew_nil))))) (fun _ => ew_xnil))) (sw_re (Γ0 := [.is (.fz ((eZ eI) script)), .row false, .is .un, .is (.fz (eI p1.1)), .is (.fz (eI p1.2.1)), .is (.fz (eI p1.2.2.1)), .is (.fz ((eP (aC eI (aC eB aN))) one1)), .is (.fz ((eP (aC eI (aC eB aN))) other1)), .is (.ow (oM obB eS [(one1, (PySem.Str.ofString ""))])), .is (.fz ((eL (eP (aC eI (aC eB aN)))) [one1])), .is .un, .is .un, .is .un, .is .un]) (sw_while (Δ := fun (st : ((Dic (Int × (Bool × Unit)) Str) × (List (Int × (Bool × Unit))))) => [.is (.fz ((eZ eI) script)), .row false, .is .un, .is (.fz (eI p1.1)), .is (.fz (eI p1.2.1)), .is (.fz (eI p1.2.2.1)), .is (.fz ((eP (aC eI (aC eB aN))) one1)), .is (.fz ((eP (aC eI (aC eB aN))) other1)), .is (.ow (oM obB eS st.1)), .is (.fz ((eL (eP (aC eI (aC eB aN)))) st.2)), .nf, .nf, .nf, .nf]) (cr := fun (st1 : ((Dic (Int × (Bool × Unit)) Str) × (List (Int × (Bool × Unit))))) => (neR ((eL (eP (aC eI (aC eB aN)))) st1.2) ((eL (eP (aC eI (aC eB aN)))) [])).bind fun t => .ok t) (body := fun (st1 : ((Dic (Int × (Bool × Unit)) Str) × (List (Int × (Bool × Unit))))) => (forR st1.2 (fun (x : (Int × (Bool × Unit))) (st2 : ((Dic (Int × (Bool × Unit)) Str) × (List (Int × (Bool × Unit))))) => (forR [(PySem.Str.ofString "L"), (PySem.Str.ofString "P"), (PySem.Str.ofString "R")] (fun (x2 : Str) (st3 : ((Dic (Int × (Bool × Unit)) Str) × (List (Int × (Bool × Unit))))) => (N._law_move p1.1 p1.2.1 p1.2.2.1 x x2).bind fun more => (if (!(mGt st3.1 more).isSome) = true then (mgR st3.1 x).bind fun t2 => (catS t2 x2).bind fun t3 => (msR st3.1 more t3).bind fun known => (appR st3.2 more).bind fun later => .ok (known, later) else .ok (st3.1, st3.2) : R ((Dic (Int × (Bool × Unit)) Str) × (List (Int × (Bool × Unit))))).bind fun st4 => .ok (st4.1, st4.2)) (st2.1, st2.2)).bind fun so => .ok (so.1, so.2)) (st1.1, [])).bind fun so2 => .ok (so2.1, so2.2)) ([(one1, (PySem.Str.ofString ""))], [one1]) (by exact (Le.k (Le.k (Le.k (Le.k (Le.k (Le.k (Le.k (Le.k (Le.k (Le.k (Le.u (Le.u (Le.u (Le.u Le.nil))))))))))))))) (fun st1 => ew_tst (ew_op2pb (fun _ _ => ne_V _ _) st1.2 (fun _ => ew_var (i := 9) st1.2 (eL (eP (aC eI (aC eB aN))))) [] (fun _ => ew_frzM (ew_calO (new_L (f := (eP (aC eI (aC eB aN)))) (w := fun (p : Unit) => []) (fun _ => rfl) (fun _ => by simp)) (ew_nil))))) (fun st1 => sw_re (Γ0 := [.is (.fz ((eZ eI) script)), .row false, .is .un, .is (.fz (eI p1.1)), .is (.fz (eI p1.2.1)), .is (.fz (eI p1.2.2.1)), .is (.fz ((eP (aC eI (aC eB aN))) one1)), .is (.fz ((eP (aC eI (aC eB aN))) other1)), .is (.ow (oM obB eS st1.1)), .is (.fz ((eL (eP (aC eI (aC eB aN)))) st1.2)), .nf, .nf, .nf, .nf]) (sw_setOp (f := oL (eP (aC eI (aC eB aN)))) [] (fun _ => ew_calO (new_L (f := (eP (aC eI (aC eB aN)))) (w := fun (p : Unit) => []) (fun _ => rfl) (fun _ => by simp)) (ew_nil)) (sw_re (Γ0 := [.is (.fz ((eZ eI) script)), .row false, .is .un, .is (.fz (eI p1.1)), .is (.fz (eI p1.2.1)), .is (.fz (eI p1.2.2.1)), .is (.fz ((eP (aC eI (aC eB aN))) one1)), .is (.fz ((eP (aC eI (aC eB aN))) other1)), .is (.ow (oM obB eS st1.1)), .is (.fz ((eL (eP (aC eI (aC eB aN)))) st1.2)), .is (.ow (oL (eP (aC eI (aC eB aN))) [])), .nf, .nf, .nf]) (sw_for (fx := (eP (aC eI (aC eB aN)))) (Δ := fun (st : ((Dic (Int × (Bool × Unit)) Str) × (List (Int × (Bool × Unit))))) => [.is (.fz ((eZ eI) script)), .row false, .is .un, .is (.fz (eI p1.1)), .is (.fz (eI p1.2.1)), .is (.fz (eI p1.2.2.1)), .is (.fz ((eP (aC eI (aC eB aN))) one1)), .is (.fz ((eP (aC eI (aC eB aN))) other1)), .is (.ow (oM obB eS st.1)), .is (.fz ((eL (eP (aC eI (aC eB aN)))) st1.2)), .is (.ow (oL (eP (aC eI (aC eB aN))) st.2)), .nf, .nf, .nf]) (Γ1 := fun (x : (Int × (Bool × Unit))) (st2 : ((Dic (Int × (Bool × Unit)) Str) × (List (Int × (Bool × Unit))))) => [.is (.fz ((eZ eI) script)), .row false, .is .un, .is (.fz (eI p1.1)), .is (.fz (eI p1.2.1)), .is (.fz (eI p1.2.2.1)), .is (.fz ((eP (aC eI (aC eB aN))) one1)), .is (.fz ((eP (aC eI (aC eB aN))) other1)), .is (.ow (oM obB eS st2.1)), .is (.fz ((eL (eP (aC eI (aC eB aN)))) st1.2)), .is (.ow (oL (eP (aC eI (aC eB aN))) st2.2)), .is (.fz ((eP (aC eI (aC eB aN))) x)), .nf, .nf]) (body := fun (x : (Int × (Bool × Unit))) (st2 : ((Dic (Int × (Bool × Unit)) Str) × (List (Int × (Bool × Unit))))) => (forR [(PySem.Str.ofString "L"), (PySem.Str.ofString "P"), (PySem.Str.ofString "R")] (fun (x2 : Str) (st3 : ((Dic (Int × (Bool × Unit)) Str) × (List (Int × (Bool × Unit))))) => (N._law_move p1.1 p1.2.1 p1.2.2.1 x x2).bind fun more => (if (!(mGt st3.1 more).isSome) = true then (mgR st3.1 x).bind fun t2 => (catS t2 x2).bind fun t3 => (msR st3.1 more t3).bind fun known => (appR st3.2 more).bind fun later => .ok (known, later) else .ok (st3.1, st3.2) : R ((Dic (Int × (Bool × Unit)) Str) × (List (Int × (Bool × Unit))))).bind fun st4 => .ok (st4.1, st4.2)) (st2.1, st2.2)).bind fun so => .ok (so.1, so.2)) (st1.1, []) (ew_iLA (ew_var (i := 9) st1.2 (eL (eP (aC eI (aC eB aN)))))) (by exact (Le.k (Le.k (Le.k (Le.k (Le.k (Le.k (Le.k (Le.k (Le.k (Le.k (Le.k (Le.k (Le.k (Le.k Le.nil))))))))))))))) (fun x st2 => gw_n) (fun x st2 => sw_re (Γ0 := [.is (.fz ((eZ eI) script)), .row false, .is .un, .is (.fz (eI p1.1)), .is (.fz (eI p1.2.1)), .is (.fz (eI p1.2.2.1)), .is (.fz ((eP (aC eI (aC eB aN))) one1)), .is (.fz ((eP (aC eI (aC eB aN))) other1)), .is (.ow (oM obB eS st2.1)), .is (.fz ((eL (eP (aC eI (aC eB aN)))) st1.2)), .is (.ow (oL (eP (aC eI (aC eB aN))) st2.2)), .is (.fz ((eP (aC eI (aC eB aN))) x)), .nf, .nf]) (sw_last (sw_for (fx := eS) (Δ := fun (st : ((Dic (Int × (Bool × Unit)) Str) × (List (Int × (Bool × Unit))))) => [.is (.fz ((eZ eI) script)), .row false, .is .un, .is (.fz (eI p1.1)), .is (.fz (eI p1.2.1)), .is (.fz (eI p1.2.2.1)), .is (.fz ((eP (aC eI (aC eB aN))) one1)), .is (.fz ((eP (aC eI (aC eB aN))) other1)), .is (.ow (oM obB eS st.1)), .is (.fz ((eL (eP (aC eI (aC eB aN)))) st1.2)), .is (.ow (oL (eP (aC eI (aC eB aN))) st.2)), .is (.fz ((eP (aC eI (aC eB aN))) x)), .nf, .nf]) (Γ1 := fun (x2 : Str) (st3 : ((Dic (Int × (Bool × Unit)) Str) × (List (Int × (Bool × Unit))))) => [.is (.fz ((eZ eI) script)), .row false, .is .un, .is (.fz (eI p1.1)), .is (.fz (eI p1.2.1)), .is (.fz (eI p1.2.2.1)), .is (.fz ((eP (aC eI (aC eB aN))) one1)), .is (.fz ((eP (aC eI (aC eB aN))) other1)), .is (.ow (oM obB eS st3.1)), .is (.fz ((eL (eP (aC eI (aC eB aN)))) st1.2)), .is (.ow (oL (eP (aC eI (aC eB aN))) st3.2)), .is (.fz ((eP (aC eI (aC eB aN))) x)), .is (.fz (eS x2)), .nf]) (body := fun (x2 : Str) (st3 : ((Dic (Int × (Bool × Unit)) Str) × (List (Int × (Bool × Unit))))) => (N._law_move p1.1 p1.2.1 p1.2.2.1 x x2).bind fun more => (if (!(mGt st3.1 more).isSome) = true then (mgR st3.1 x).bind fun t2 => (catS t2 x2).bind fun t3 => (msR st3.1 more t3).bind fun known => (appR st3.2 more).bind fun later => .ok (known, later) else .ok (st3.1, st3.2) : R ((Dic (Int × (Bool × Unit)) Str) × (List (Int × (Bool × Unit))))).bind fun st4 => .ok (st4.1, st4.2)) (st2.1, st2.2) (ew_iLA (ew_cst ([(PySem.Str.ofString "L"), (PySem.Str.ofString "P"), (PySem.Str.ofString "R")] : (List Str)) (eL eS))) (by exact (Le.k (Le.k (Le.k (Le.k (Le.k (Le.k (Le.k (Le.k (Le.k (Le.k (Le.k (Le.k (Le.k (Le.k Le.nil))))))))))))))) (fun x2 st3 => gw_n) (fun x2 st3 => sw_re (Γ0 := [.is (.fz ((eZ eI) script)), .row false, .is .un, .is (.fz (eI p1.1)), .is (.fz (eI p1.2.1)), .is (.fz (eI p1.2.2.1)), .is (.fz ((eP (aC eI (aC eB aN))) one1)), .is (.fz ((eP (aC eI (aC eB aN))) other1)), .is (.ow (oM obB eS st3.1)), .is (.fz ((eL (eP (aC eI (aC eB aN)))) st1.2)), .is (.ow (oL (eP (aC eI (aC eB aN))) st3.2)), .is (.fz ((eP (aC eI (aC eB aN))) x)), .is (.fz (eS x2)), .nf]) (sw_set (ew_call (fun (a : Int × Int × Int × (Int × (Bool × Unit)) × Str × Unit) => n_N__law_move a.1 a.2.1 a.2.2.1 a.2.2.2.1 a.2.2.2.2.1) (ew_consv (i := 3) p1.1 eI (ew_consv (i := 4) p1.2.1 eI (ew_consv (i := 5) p1.2.2.1 eI (ew_consv (i := 11) x (eP (aC eI (aC eB aN))) (ew_consv (i := 12) x2 eS (ew_nil))))))) (fun more => sw_re (Γ0 := [.is (.fz ((eZ eI) script)), .row false, .is .un, .is (.fz (eI p1.1)), .is (.fz (eI p1.2.1)), .is (.fz (eI p1.2.2.1)), .is (.fz ((eP (aC eI (aC eB aN))) one1)), .is (.fz ((eP (aC eI (aC eB aN))) other1)), .is (.ow (oM obB eS st3.1)), .is (.fz ((eL (eP (aC eI (aC eB aN)))) st1.2)), .is (.ow (oL (eP (aC eI (aC eB aN))) st3.2)), .is (.fz ((eP (aC eI (aC eB aN))) x)), .is (.fz (eS x2)), .is (.fz ((eP (aC eI (aC eB aN))) more))]) (sw_last (sw_ifjp (!(mGt st3.1 more).isSome) (fun _ => ew_tst (ew_mninp (i := 8) (d := st3.1) (f := eS) kok_B more (fun _ => ew_var (i := 13) more (eP (aC eI (aC eB aN)))) (.inl rfl))) (sw_re (Γ0 := [.is (.fz ((eZ eI) script)), .row false, .is .un, .is (.fz (eI p1.1)), .is (.fz (eI p1.2.1)), .is (.fz (eI p1.2.2.1)), .is (.fz ((eP (aC eI (aC eB aN))) one1)), .is (.fz ((eP (aC eI (aC eB aN))) other1)), .is (.ow (oM obB eS st3.1)), .is (.fz ((eL (eP (aC eI (aC eB aN)))) st1.2)), .is (.ow (oL (eP (aC eI (aC eB aN))) st3.2)), .is (.fz ((eP (aC eI (aC eB aN))) x)), .is (.fz (eS x2)), .is (.fz ((eP (aC eI (aC eB aN))) more))]) (sw_setMk (i := 8) (d := st3.1) (f := eS) kok_B more (ew_op2pr (add_S) x2 (fun _ => ew_var (i := 12) x2 eS) (ew_mgp (i := 8) (d := st3.1) (f := eS) kok_B x (.inl rfl) (fun _ => ew_var (i := 11) x (eP (aC eI (aC eB aN)))) (.inl rfl))) rfl (fun _ => ew_var (i := 13) more (eP (aC eI (aC eB aN)))) rfl (fun known => sw_re (Γ0 := [.is (.fz ((eZ eI) script)), .row false, .is .un, .is (.fz (eI p1.1)), .is (.fz (eI p1.2.1)), .is (.fz (eI p1.2.2.1)), .is (.fz ((eP (aC eI (aC eB aN))) one1)), .is (.fz ((eP (aC eI (aC eB aN))) other1)), .is (.ow (oM obB eS known)), .is (.fz ((eL (eP (aC eI (aC eB aN)))) st1.2)), .is (.ow (oL (eP (aC eI (aC eB aN))) st3.2)), .is (.fz ((eP (aC eI (aC eB aN))) x)), .is (.fz (eS x2)), .is (.fz ((eP (aC eI (aC eB aN))) more))]) (sw_last (sw_app (i := 10) (xs := st3.2) (f := (eP (aC eI (aC eB aN)))) rfl (ew_var (i := 13) more (eP (aC eI (aC eB aN)))) rfl (fun later => sw_endN (Δ := fun (st : ((Dic (Int × (Bool × Unit)) Str) × (List (Int × (Bool × Unit))))) => [.is (.fz ((eZ eI) script)), .row false, .is .un, .is (.fz (eI p1.1)), .is (.fz (eI p1.2.1)), .is (.fz (eI p1.2.2.1)), .is (.fz ((eP (aC eI (aC eB aN))) one1)), .is (.fz ((eP (aC eI (aC eB aN))) other1)), .is (.ow (oM obB eS st.1)), .is (.fz ((eL (eP (aC eI (aC eB aN)))) st1.2)), .is (.ow (oL (eP (aC eI (aC eB aN))) st.2)), .is (.fz ((eP (aC eI (aC eB aN))) x)), .is (.fz (eS x2)), .is (.fz ((eP (aC eI (aC eB aN))) more))]) (known, later) (by exact (Le.k (Le.k (Le.k (Le.k (Le.k (Le.k (Le.k (Le.k (Le.k (Le.k (Le.k (Le.k (Le.k (Le.k Le.nil))))))))))))))))))))) (sw_endN (Δ := fun (st : ((Dic (Int × (Bool × Unit)) Str) × (List (Int × (Bool × Unit))))) => [.is (.fz ((eZ eI) script)), .row false, .is .un, .is (.fz (eI p1.1)), .is (.fz (eI p1.2.1)), .is (.fz (eI p1.2.2.1)), .is (.fz ((eP (aC eI (aC eB aN))) one1)), .is (.fz ((eP (aC eI (aC eB aN))) other1)), .is (.ow (oM obB eS st.1)), .is (.fz ((eL (eP (aC eI (aC eB aN)))) st1.2)), .is (.ow (oL (eP (aC eI (aC eB aN))) st.2)), .is (.fz ((eP (aC eI (aC eB aN))) x)), .is (.fz (eS x2)), .is (.fz ((eP (aC eI (aC eB aN))) more))]) (st3.1, st3.2) (by exact (Le.k (Le.k (Le.k (Le.k (Le.k (Le.k (Le.k (Le.k (Le.k (Le.k (Le.k (Le.k (Le.k (Le.k Le.nil)))))))))))))))) (fun st4 => sw_endL (Δ := fun (st : ((Dic (Int × (Bool × Unit)) Str) × (List (Int × (Bool × Unit))))) => [.is (.fz ((eZ eI) script)), .row false, .is .un, .is (.fz (eI p1.1)), .is (.fz (eI p1.2.1)), .is (.fz (eI p1.2.2.1)), .is (.fz ((eP (aC eI (aC eB aN))) one1)), .is (.fz ((eP (aC eI (aC eB aN))) other1)), .is (.ow (oM obB eS st.1)), .is (.fz ((eL (eP (aC eI (aC eB aN)))) st1.2)), .is (.ow (oL (eP (aC eI (aC eB aN))) st.2)), .is (.fz ((eP (aC eI (aC eB aN))) x)), .nf, .nf]) (st4.1, st4.2) (by exact (Le.k (Le.k (Le.k (Le.k (Le.k (Le.k (Le.k (Le.k (Le.k (Le.k (Le.k (Le.k (Le.n (Le.n Le.nil))))))))))))))))))))) (fun so => sw_endL (Δ := fun (st : ((Dic (Int × (Bool × Unit)) Str) × (List (Int × (Bool × Unit))))) => [.is (.fz ((eZ eI) script)), .row false, .is .un, .is (.fz (eI p1.1)), .is (.fz (eI p1.2.1)), .is (.fz (eI p1.2.2.1)), .is (.fz ((eP (aC eI (aC eB aN))) one1)), .is (.fz ((eP (aC eI (aC eB aN))) other1)), .is (.ow (oM obB eS st.1)), .is (.fz ((eL (eP (aC eI (aC eB aN)))) st1.2)), .is (.ow (oL (eP (aC eI (aC eB aN))) st.2)), .nf, .nf, .nf]) (so.1, so.2) (by exact (Le.k (Le.k (Le.k (Le.k (Le.k (Le.k (Le.k (Le.k (Le.k (Le.k (Le.k (Le.n (Le.k (Le.k Le.nil))))))))))))))))))) (fun so2 => sw_re (Γ0 := [.is (.fz ((eZ eI) script)), .row false, .is .un, .is (.fz (eI p1.1)), .is (.fz (eI p1.2.1)), .is (.fz (eI p1.2.2.1)), .is (.fz ((eP (aC eI (aC eB aN))) one1)), .is (.fz ((eP (aC eI (aC eB aN))) other1)), .is (.ow (oM obB eS so2.1)), .is (.fz ((eL (eP (aC eI (aC eB aN)))) st1.2)), .is (.ow (oL (eP (aC eI (aC eB aN))) so2.2)), .nf, .nf, .nf]) (sw_last (sw_setp so2.2 (fun _ => ew_frz (i := 10) so2.2 (eL (eP (aC eI (aC eB aN))))) (sw_endL (Δ := fun (st : ((Dic (Int × (Bool × Unit)) Str) × (List (Int × (Bool × Unit))))) => [.is (.fz ((eZ eI) script)), .row false, .is .un, .is (.fz (eI p1.1)), .is (.fz (eI p1.2.1)), .is (.fz (eI p1.2.2.1)), .is (.fz ((eP (aC eI (aC eB aN))) one1)), .is (.fz ((eP (aC eI (aC eB aN))) other1)), .is (.ow (oM obB eS st.1)), .is (.fz ((eL (eP (aC eI (aC eB aN)))) st.2)), .nf, .nf, .nf, .nf]) (so2.1, so2.2) (by exact (Le.k (Le.k (Le.k (Le.k (Le.k (Le.k (Le.k (Le.k (Le.k (Le.k (Le.n (Le.k (Le.k (Le.k Le.nil))))))))))))))))))))))) (fun so3 => sw_re (Γ0 := [.is (.fz ((eZ eI) script)), .row false, .is .un, .is (.fz (eI p1.1)), .is (.fz (eI p1.2.1)), .is (.fz (eI p1.2.2.1)), .is (.fz ((eP (aC eI (aC eB aN))) one1)), .is (.fz ((eP (aC eI (aC eB aN))) other1)), .is (.ow (oM obB eS so3.1)), .is (.fz ((eL (eP (aC eI (aC eB aN)))) so3.2)), .nf, .nf, .nf, .nf]) (sw_set (ew_call (fun (a : Int × Int × Int × (Int × (Bool × Unit)) × (Int × (Bool × Unit)) × Unit) => n_N_triads_least_moves a.1 a.2.1 a.2.2.1 a.2.2.2.1 a.2.2.2.2.1) (ew_consv (i := 3) p1.1 eI (ew_consv (i := 4) p1.2.1 eI (ew_consv (i := 5) p1.2.2.1 eI (ew_consv (i := 6) one1 (eP (aC eI (aC eB aN))) (ew_consv (i := 7) other1 (eP (aC eI (aC eB aN))) (ew_nil))))))) (fun found => sw_re (Γ0 := [.is (.fz ((eZ eI) script)), .row false, .is (.fz ((eO eS) found)), .is (.fz (eI p1.1)), .is (.fz (eI p1.2.1)), .is (.fz (eI p1.2.2.1)), .is (.fz ((eP (aC eI (aC eB aN))) one1)), .is (.fz ((eP (aC eI (aC eB aN))) other1)), .is (.ow (oM obB eS so3.1)), .is (.fz ((eL (eP (aC eI (aC eB aN)))) so3.2)), .nf, .nf, .nf, .nf]) (sw_if (ew_orTx (ew_notT (ew_truth (f1 := eB) (w := fun z => z) (fun _ => rfl) (ew_call (fun (a : (Option Str) × (Option Str) × Unit) => n_alike (eO eS) a.1 a.2.1) (ew_consv (i := 2) found (eO eS) (ew_consp (f1 := (eO eS)) (mGt so3.1 other1) (fun _ => ew_mg2N (i := 8) (d := so3.1) (f := eS) kok_B other1 (.inl rfl) (fun _ => ew_var (i := 7) other1 (eP (aC eI (aC eB aN)))) (fun _ => ew_con () eU) (.inl rfl)) (ew_nil)))))) (ew_notT (ew_truth (f1 := eB) (w := fun z => z) (fun _ => rfl) (ew_call (fun (a : Int × Int × Unit) => n_alike eI a.1 a.2.1) (ew_cons (ew_call (fun (a : Int × Int × Int × Unit) => n_N_triads_reached a.1 a.2.1 a.2.2.1) (ew_consv (i := 3) p1.1 eI (ew_consv (i := 4) p1.2.1 eI (ew_consv (i := 5) p1.2.2.1 eI (ew_nil))))) (fun _ => ew_consp (f1 := eI) (so3.1.length : Int) (fun _ => ew_lenMB (i := 8) (d := so3.1) (f := eS)) (ew_nil))))))) (sw_re (Γ0 := [.is (.fz ((eZ eI) script)), .row false, .is (.fz ((eO eS) found)), .is (.fz (eI p1.1)), .is (.fz (eI p1.2.1)), .is (.fz (eI p1.2.2.1)), .is (.fz ((eP (aC eI (aC eB aN))) one1)), .is (.fz ((eP (aC eI (aC eB aN))) other1)), .is (.ow (oM obB eS so3.1)), .is (.fz ((eL (eP (aC eI (aC eB aN)))) so3.2)), .nf, .nf, .nf, .nf]) (sw_retF (ew_con false eB))) (sw_skip (sw_re (Γ0 := [.is (.fz ((eZ eI) script)), .row false, .is (.fz ((eO eS) found)), .is (.fz (eI p1.1)), .is (.fz (eI p1.2.1)), .is (.fz (eI p1.2.2.1)), .is (.fz ((eP (aC eI (aC eB aN))) one1)), .is (.fz ((eP (aC eI (aC eB aN))) other1)), .is (.ow (oM obB eS so3.1)), .is (.fz ((eL (eP (aC eI (aC eB aN)))) so3.2)), .nf, .nf, .nf, .nf]) (sw_ifp found.isSome (fun _ => ew_tst (op2c (t := .non) (isn_O (fun _ => rfl)) (ew_var (i := 2) found (eO eS)))) (sw_re (Γ0 := [.is (.fz ((eZ eI) script)), .row false, .is (.fz ((eO eS) found)), .is (.fz (eI p1.1)), .is (.fz (eI p1.2.1)), .is (.fz (eI p1.2.2.1)), .is (.fz ((eP (aC eI (aC eB aN))) one1)), .is (.fz ((eP (aC eI (aC eB aN))) other1)), .is (.ow (oM obB eS so3.1)), .is (.fz ((eL (eP (aC eI (aC eB aN)))) so3.2)), .nf, .nf, .nf, .nf]) (sw_assoc (sw_if (ew_tst (ew_op2pr (fun _ _ => ne_V _ _) other1 (fun _ => ew_var (i := 7) other1 (eP (aC eI (aC eB aN)))) (ew_call (fun (a : Int × Int × Int × (Int × (Bool × Unit)) × Str × Unit) => n_N_triads_walk a.1 a.2.1 a.2.2.1 a.2.2.2.1 a.2.2.2.2.1) (ew_consv (i := 3) p1.1 eI (ew_consv (i := 4) p1.2.1 eI (ew_consv (i := 5) p1.2.2.1 eI (ew_consv (i := 6) one1 (eP (aC eI (aC eB aN))) (ew_cons (ew_unO (ew_var (i := 2) found (eO eS))) (fun _ => ew_nil))))))))) (sw_re (Γ0 := [.is (.fz ((eZ eI) script)), .row false, .is (.fz ((eO eS) found)), .is (.fz (eI p1.1)), .is (.fz (eI p1.2.1)), .is (.fz (eI p1.2.2.1)), .is (.fz ((eP (aC eI (aC eB aN))) one1)), .is (.fz ((eP (aC eI (aC eB aN))) other1)), .is (.ow (oM obB eS so3.1)), .is (.fz ((eL (eP (aC eI (aC eB aN)))) so3.2)), .nf, .nf, .nf, .nf]) (sw_retF (ew_con false eB))) (sw_skip (sw_re (Γ0 := [.is (.fz ((eZ eI) script)), .row false, .is (.fz ((eO eS) found)), .is (.fz (eI p1.1)), .is (.fz (eI p1.2.1)), .is (.fz (eI p1.2.2.1)), .is (.fz ((eP (aC eI (aC eB aN))) one1)), .is (.fz ((eP (aC eI (aC eB aN))) other1)), .is (.ow (oM obB eS so3.1)), .is (.fz ((eL (eP (aC eI (aC eB aN)))) so3.2)), .nf, .nf, .nf, .nf]) (sw_forC (fx := (eP (aC eI (aC eB aN)))) (Δ := fun (st : Unit) => [.is (.fz ((eZ eI) script)), .row false, .is (.fz ((eO eS) found)), .is (.fz (eI p1.1)), .is (.fz (eI p1.2.1)), .is (.fz (eI p1.2.2.1)), .is (.fz ((eP (aC eI (aC eB aN))) one1)), .is (.fz ((eP (aC eI (aC eB aN))) other1)), .is (.fz ((eM obB eS) so3.1)), .is (.fz ((eL (eP (aC eI (aC eB aN)))) so3.2)), .nf, .nf, .nf, .nf]) (Γ1 := fun (x3 : (Int × (Bool × Unit))) (st5 : Unit) => [.is (.fz ((eZ eI) script)), .row false, .is (.fz ((eO eS) found)), .is (.fz (eI p1.1)), .is (.fz (eI p1.2.1)), .is (.fz (eI p1.2.2.1)), .is (.fz ((eP (aC eI (aC eB aN))) one1)), .is (.fz ((eP (aC eI (aC eB aN))) other1)), .is (.fz ((eM obB eS) so3.1)), .is (.fz ((eL (eP (aC eI (aC eB aN)))) so3.2)), .nf, .is (.fz ((eP (aC eI (aC eB aN))) x3)), .nf, .nf]) (Pr := PF eB) (body := fun (x3 : (Int × (Bool × Unit))) (st5 : Unit) => (forC [(PySem.Str.ofString "L"), (PySem.Str.ofString "P"), (PySem.Str.ofString "R")] (fun (x4 : Str) (st6 : Unit) => (mgR so3.1 x3).bind fun t6 => (lenS t6).bind fun n => (unO found).bind fun u2 => (lenS u2).bind fun n2 => (if (decide (n = (n2 - (1 : Int)))) = true then (N._law_move p1.1 p1.2.1 p1.2.2.1 x3 x4).bind fun c6 => (eqR ((eP (aC eI (aC eB aN))) c6) ((eP (aC eI (aC eB aN))) other1)).bind fun t7 => (if t7 = true then (mgR so3.1 x3).bind fun t8 => (catS t8 x4).bind fun t9 => (unO found).bind fun u3 => .ok (ltD PyData.str t9 u3) else .ok false).bind fun t10 => .ok t10 else .ok false).bind fun t11 => if t11 = true then .ok (.rt false) else .ok (.nx ())) () : R (Lp Unit Bool)).bind fun lp => match lp with | .nx so4 => (.ok (.nx ())) | .rt b => .ok (.rt b)) (k := fun (lp : Lp Unit Bool) => match lp with | .nx so5 => (.ok true) | .rt b => .ok b) () (ew_ksB (i := 8) so3.1) (by exact (Le.k (Le.k (Le.k (Le.k (Le.k (Le.k (Le.k (Le.k (Le.k (Le.k (Le.k (Le.k (Le.k (Le.k Le.nil))))))))))))))) (fun x3 st5 => gw_n) (fun x3 st5 => sw_re (Γ0 := [.is (.fz ((eZ eI) script)), .row false, .is (.fz ((eO eS) found)), .is (.fz (eI p1.1)), .is (.fz (eI p1.2.1)), .is (.fz (eI p1.2.2.1)), .is (.fz ((eP (aC eI (aC eB aN))) one1)), .is (.fz ((eP (aC eI (aC eB aN))) other1)), .is (.fz ((eM obB eS) so3.1)), .is (.fz ((eL (eP (aC eI (aC eB aN)))) so3.2)), .nf, .is (.fz ((eP (aC eI (aC eB aN))) x3)), .nf, .nf]) (sw_last (sw_forC (fx := eS) (Δ := fun (st : Unit) => [.is (.fz ((eZ eI) script)), .row false, .is (.fz ((eO eS) found)), .is (.fz (eI p1.1)), .is (.fz (eI p1.2.1)), .is (.fz (eI p1.2.2.1)), .is (.fz ((eP (aC eI (aC eB aN))) one1)), .is (.fz ((eP (aC eI (aC eB aN))) other1)), .is (.fz ((eM obB eS) so3.1)), .is (.fz ((eL (eP (aC eI (aC eB aN)))) so3.2)), .nf, .is (.fz ((eP (aC eI (aC eB aN))) x3)), .nf, .nf]) (Γ1 := fun (x4 : Str) (st6 : Unit) => [.is (.fz ((eZ eI) script)), .row false, .is (.fz ((eO eS) found)), .is (.fz (eI p1.1)), .is (.fz (eI p1.2.1)), .is (.fz (eI p1.2.2.1)), .is (.fz ((eP (aC eI (aC eB aN))) one1)), .is (.fz ((eP (aC eI (aC eB aN))) other1)), .is (.fz ((eM obB eS) so3.1)), .is (.fz ((eL (eP (aC eI (aC eB aN)))) so3.2)), .nf, .is (.fz ((eP (aC eI (aC eB aN))) x3)), .is (.fz (eS x4)), .nf]) (Pr := PF eB) (body := fun (x4 : Str) (st6 : Unit) => (mgR so3.1 x3).bind fun t6 => (lenS t6).bind fun n => (unO found).bind fun u2 => (lenS u2).bind fun n2 => (if (decide (n = (n2 - (1 : Int)))) = true then (N._law_move p1.1 p1.2.1 p1.2.2.1 x3 x4).bind fun c6 => (eqR ((eP (aC eI (aC eB aN))) c6) ((eP (aC eI (aC eB aN))) other1)).bind fun t7 => (if t7 = true then (mgR so3.1 x3).bind fun t8 => (catS t8 x4).bind fun t9 => (unO found).bind fun u3 => .ok (ltD PyData.str t9 u3) else .ok false).bind fun t10 => .ok t10 else .ok false).bind fun t11 => if t11 = true then .ok (.rt false) else .ok (.nx ())) (k := fun (lp : Lp Unit Bool) => match lp with | .nx so4 => (.ok (.nx ())) | .rt b => .ok (.rt b)) () (ew_iLA (ew_cst ([(PySem.Str.ofString "L"), (PySem.Str.ofString "P"), (PySem.Str.ofString "R")] : (List Str)) (eL eS))) (by exact (Le.k (Le.k (Le.k (Le.k (Le.k (Le.k (Le.k (Le.k (Le.k (Le.k (Le.k (Le.k (Le.k (Le.k Le.nil))))))))))))))) (fun x4 st6 => gw_n) (fun x4 st6 => sw_re (Γ0 := [.is (.fz ((eZ eI) script)), .row false, .is (.fz ((eO eS) found)), .is (.fz (eI p1.1)), .is (.fz (eI p1.2.1)), .is (.fz (eI p1.2.2.1)), .is (.fz ((eP (aC eI (aC eB aN))) one1)), .is (.fz ((eP (aC eI (aC eB aN))) other1)), .is (.fz ((eM obB eS) so3.1)), .is (.fz ((eL (eP (aC eI (aC eB aN)))) so3.2)), .nf, .is (.fz ((eP (aC eI (aC eB aN))) x3)), .is (.fz (eS x4)), .nf]) (sw_last (sw_if (ew_andTx (ew_tst (ew_op2 (eq_of eqc_I) (ew_calFp len_S (ew_cons (ew_mgp (i := 8) (d := so3.1) (f := eS) kok_B x3 (.inr rfl) (fun _ => ew_var (i := 11) x3 (eP (aC eI (aC eB aN)))) (.inr rfl)) (fun _ => ew_nil))) (fun _ => ew_op2r (sub_I) (1 : Int) (fun _ => ew_con (1 : Int) eI) (ew_lenSO (i := 2) found)))) (ew_andTx (ew_tst (ew_op2pr (fun _ _ => eq_V _ _) other1 (fun _ => ew_var (i := 7) other1 (eP (aC eI (aC eB aN)))) (ew_call (fun (a : Int × Int × Int × (Int × (Bool × Unit)) × Str × Unit) => n_N__law_move a.1 a.2.1 a.2.2.1 a.2.2.2.1 a.2.2.2.2.1) (ew_consv (i := 3) p1.1 eI (ew_consv (i := 4) p1.2.1 eI (ew_consv (i := 5) p1.2.2.1 eI (ew_consv (i := 11) x3 (eP (aC eI (aC eB aN))) (ew_consv (i := 12) x4 eS (ew_nil))))))))) (ew_tst (ew_op2 (lt_K lk_S (by decide)) (ew_op2pr (add_S) x4 (fun _ => ew_var (i := 12) x4 eS) (ew_mgp (i := 8) (d := so3.1) (f := eS) kok_B x3 (.inr rfl) (fun _ => ew_var (i := 11) x3 (eP (aC eI (aC eB aN)))) (.inr rfl))) (fun _ => ew_unO (ew_var (i := 2) found (eO eS))))))) (sw_re (Γ0 := [.is (.fz ((eZ eI) script)), .row false, .is (.fz ((eO eS) found)), .is (.fz (eI p1.1)), .is (.fz (eI p1.2.1)), .is (.fz (eI p1.2.2.1)), .is (.fz ((eP (aC eI (aC eB aN))) one1)), .is (.fz ((eP (aC eI (aC eB aN))) other1)), .is (.fz ((eM obB eS) so3.1)), .is (.fz ((eL (eP (aC eI (aC eB aN)))) so3.2)), .nf, .is (.fz ((eP (aC eI (aC eB aN))) x3)), .is (.fz (eS x4)), .nf]) (sw_retCF (Δ := fun (st : Unit) => [.is (.fz ((eZ eI) script)), .row false, .is (.fz ((eO eS) found)), .is (.fz (eI p1.1)), .is (.fz (eI p1.2.1)), .is (.fz (eI p1.2.2.1)), .is (.fz ((eP (aC eI (aC eB aN))) one1)), .is (.fz ((eP (aC eI (aC eB aN))) other1)), .is (.fz ((eM obB eS) so3.1)), .is (.fz ((eL (eP (aC eI (aC eB aN)))) so3.2)), .nf, .is (.fz ((eP (aC eI (aC eB aN))) x3)), .nf, .nf]) (ew_con false eB))) (sw_skip (sw_endC (Δ := fun (st : Unit) => [.is (.fz ((eZ eI) script)), .row false, .is (.fz ((eO eS) found)), .is (.fz (eI p1.1)), .is (.fz (eI p1.2.1)), .is (.fz (eI p1.2.2.1)), .is (.fz ((eP (aC eI (aC eB aN))) one1)), .is (.fz ((eP (aC eI (aC eB aN))) other1)), .is (.fz ((eM obB eS) so3.1)), .is (.fz ((eL (eP (aC eI (aC eB aN)))) so3.2)), .nf, .is (.fz ((eP (aC eI (aC eB aN))) x3)), .nf, .nf]) () (by exact (Le.k (Le.k (Le.k (Le.k (Le.k (Le.k (Le.k (Le.k (Le.k (Le.k (Le.k (Le.k (Le.n (Le.k Le.nil)))))))))))))))))))) (fun so4 => sw_endC (Δ := fun (st : Unit) => [.is (.fz ((eZ eI) script)), .row false, .is (.fz ((eO eS) found)), .is (.fz (eI p1.1)), .is (.fz (eI p1.2.1)), .is (.fz (eI p1.2.2.1)), .is (.fz ((eP (aC eI (aC eB aN))) one1)), .is (.fz ((eP (aC eI (aC eB aN))) other1)), .is (.fz ((eM obB eS) so3.1)), .is (.fz ((eL (eP (aC eI (aC eB aN)))) so3.2)), .nf, .nf, .nf, .nf]) () (by exact (Le.k (Le.k (Le.k (Le.k (Le.k (Le.k (Le.k (Le.k (Le.k (Le.k (Le.k (Le.n (Le.k (Le.k Le.nil)))))))))))))))) rt_C))) (fun so5 => sw_re (Γ0 := [.is (.fz ((eZ eI) script)), .row false, .is (.fz ((eO eS) found)), .is (.fz (eI p1.1)), .is (.fz (eI p1.2.1)), .is (.fz (eI p1.2.2.1)), .is (.fz ((eP (aC eI (aC eB aN))) one1)), .is (.fz ((eP (aC eI (aC eB aN))) other1)), .is (.fz ((eM obB eS) so3.1)), .is (.fz ((eL (eP (aC eI (aC eB aN)))) so3.2)), .nf, .nf, .nf, .nf]) (sw_last (sw_retF (ew_con true eB)))) rt_F)))))) (sw_skip (sw_re (Γ0 := [.is (.fz ((eZ eI) script)), .row false, .is (.fz ((eO eS) found)), .is (.fz (eI p1.1)), .is (.fz (eI p1.2.1)), .is (.fz (eI p1.2.2.1)), .is (.fz ((eP (aC eI (aC eB aN))) one1)), .is (.fz ((eP (aC eI (aC eB aN))) other1)), .is (.ow (oM obB eS so3.1)), .is (.fz ((eL (eP (aC eI (aC eB aN)))) so3.2)), .nf, .nf, .nf, .nf]) (sw_last (sw_retF (ew_con true eB))))))))))))))))))))))
end FL.NL

/-! MB: the program's own defs (lines of MA .. MA4); prune.py drops what a law does not reach. -/
namespace FL.NL
open PySem
variable {α β σ : Type}
theorem All_taken {m : Int} {Q : Int → Prop} (h0 : 0 < m) (h1 : m < 18446744073709551616) (h : ∀ v, 0 ≤ v → v < m → Q v) : R.All Q (N._law_taken m) := ⟨h0, h1, h⟩
theorem is_in_ok {i a b : Int} (h1 : a ≤ i) (h2 : i ≤ b) : N.limits_is_in i a b = .ok true := by
  unfold N.limits_is_in N.limits_is_int
  simp [h1, h2]
/-! lists by size -/
structure IvB (L X : List Int) : Prop where
  len : X.length = L.length
  bd : ∀ x ∈ X, -1000 ≤ x ∧ x ≤ 1000
structure LimOk (L : List Int) : Prop where
  few : L.length ≤ 8
  pr : ∀ p ∈ L, 2 ≤ p ∧ p < 64
theorem LimOk.two {L : List Int} (h : LimOk L) : ∀ p ∈ L, 2 ≤ p := fun p hp => (h.pr p hp).1
theorem sub_lx {L X Y : List Int} (hL : LimOk L) (hx : IvB L X) (hy : IvB L Y) : LX L (subL X Y) :=
  ⟨by rw [subL_len (by rw [hx.len, hy.len]), hx.len], hL.few, fun p hp => by have := hL.pr p hp; omega, fun z hz => by have := subL_bd hx.bd hy.bd z hz; omega⟩
theorem IvB.lx {L X : List Int} (hL : LimOk L) (hx : IvB L X) : LX L X := ⟨hx.len.symm, hL.few, fun p hp => by have := hL.pr p hp; omega, fun z hz => by have := hx.bd z hz; omega⟩
theorem sgn_lt {L X Y : List Int} (hL : LimOk L) (hx : IvB L X) (hy : IvB L Y) : decide (sg L (subL X Y) < 0) = lt' L X Y := by
  have h := sub_lt hL.two hx.len hy.len
  have hp1 := nu_pos (X := subL X Y) hL.two
  have e1 : (nd L (subL X Y) (1, 1)).1 = nu L (subL X Y) := rfl
  have e2 : (nd L (subL X Y) (1, 1)).2 = de L (subL X Y) := rfl
  unfold sg lt'
  rw [e1, e2]
  by_cases c : nu L (subL X Y) < de L (subL X Y)
  · have c2 := h.mp c
    have c3 : ¬ de L (subL X Y) < nu L (subL X Y) := by omega
    simp [c, c2, c3, b01]
  · have c2 : ¬ nu L X * de L Y < nu L Y * de L X := fun e => c (h.mpr e)
    by_cases c3 : de L (subL X Y) < nu L (subL X Y) <;> simp [c, c2, c3, b01]
theorem sgn_gt {L X Y : List Int} (hL : LimOk L) (hx : IvB L X) (hy : IvB L Y) : decide (sg L (subL X Y) > 0) = lt' L Y X := by
  have h := sub_gt hL.two hx.len hy.len
  have e1 : (nd L (subL X Y) (1, 1)).1 = nu L (subL X Y) := rfl
  have e2 : (nd L (subL X Y) (1, 1)).2 = de L (subL X Y) := rfl
  unfold sg lt'
  rw [e1, e2]
  by_cases c : de L (subL X Y) < nu L (subL X Y)
  · have c2 := h.mp c
    have c3 : ¬ nu L (subL X Y) < de L (subL X Y) := by omega
    simp [c, c2, c3, b01]
  · have c2 : ¬ nu L Y * de L X < nu L X * de L Y := fun e => c (h.mpr e)
    by_cases c3 : nu L (subL X Y) < de L (subL X Y) <;> simp [c, c2, c3, b01]
theorem ris_get {L : List Int} {S : List (List Int)} (h : Ris L S) {i j : Nat} {a b : List Int} (hi : S[i]? = some a) (hj : S[j]? = some b) (hij : i ≤ j) : lt' L b a = false := by
  by_cases e : i = j
  · subst e; rw [hi] at hj; cases hj; exact lt_irr
  · obtain ⟨h1, e1⟩ := List.getElem?_eq_some_iff.mp hi
    obtain ⟨h2, e2⟩ := List.getElem?_eq_some_iff.mp hj
    have := (List.pairwise_iff_getElem.mp h) i j h1 h2 (by omega)
    rw [e1, e2] at this; exact this
/-- where to put x: before all that are wider -/
structure Spot (L x : List Int) (S : List (List Int)) (k : Nat) : Prop where
  le : k ≤ S.length
  lo : ∀ i y, i < k → S[i]? = some y → lt' L x y = false
  hi : ∀ i y, k ≤ i → S[i]? = some y → lt' L x y = true
theorem Spot.ins {L x : List Int} {S : List (List Int)} {k : Nat} (h : Spot L x S k) : S.take k ++ x :: S.drop k = FL.NL.ins L x S := by
  have := ins_at (L := L) (x := x) (a := S.take k) (b := S.drop k) (fun y hy => by
    obtain ⟨i, hi, e⟩ := List.mem_take_iff_getElem.mp hy
    exact h.lo i y (by omega) (by rw [← e]; simp)) (fun y hy => by
    rw [List.head?_drop] at hy
    exact h.hi k y (Nat.le_refl _) hy)
  rw [List.take_append_drop] at this
  exact this.symm
theorem ins_mem {L x : List Int} {S : List (List Int)} {P : List Int → Prop} (hx : P x) (hS : ∀ y ∈ S, P y) : ∀ y ∈ FL.NL.ins L x S, P y := fun y hy => by
  rcases List.mem_cons.mp (ins_perm.mem_iff.mp hy) with rfl | h
  · exact hx
  · exact hS y h
theorem lims_lim : ∀ L ∈ lims, LimOk L := fun L h => ⟨by have := (lims_pr L h).1; omega, (lims_pr L h).2.2⟩
theorem alikeR_I {a : Int} : alikeR eI a a = .ok true := by unfold alikeR; rw [if_pos ⟨rfl, rfl⟩]
theorem alikeR_B {a : Bool} : alikeR eB a a = .ok true := by unfold alikeR; rw [if_pos ⟨rfl, rfl⟩]
theorem alikeR_II {a : Int × Int × Unit} : alikeR (eP (aC eI (aC eI aN))) a a = .ok true := by unfold alikeR; rw [if_pos ⟨rfl, rfl⟩]
theorem adats_map {α : Type} {k : Nat} {f : α → T} (h : ∀ a, adat k (f a) = true) : ∀ xs : List α, adats k (xs.map f) = true
  | [] => rfl
  | x :: xs => by rw [List.map_cons]; unfold adats; rw [h x, adats_map h xs]; rfl
theorem adat_T {α : Type} {k : Nat} {f : α → T} {xs : List α} (h : ∀ a, adat k (f a) = true) (hl : xs.length ≤ 1000000) : adat (k + 1) (eT f xs) = true := by
  unfold eT adat
  rw [adats_map h, List.length_map, decide_eq_true hl]; rfl
theorem adat_I {k : Nat} (i : Int) : adat k (eI i) = true := by unfold eI; cases k <;> rfl
theorem alikeR_T {xs : List Int} (hl : xs.length ≤ 1000000) : alikeR (eT eI) xs xs = .ok true := by unfold alikeR; rw [if_pos ⟨rfl, adat_T (k := 6) adat_I hl⟩]
theorem alikeR_of {α : Type} [DecidableEq α] {f : α → T} {a : α} (h : adat 7 (f a) = true) : alikeR f a a = .ok true := by unfold alikeR; rw [if_pos ⟨rfl, h⟩]
theorem alikeR_eq {α : Type} [DecidableEq α] {f : α → T} {a b : α} (e : a = b) (h : adat 7 (f a) = true) : alikeR f a b = .ok true := by subst e; exact alikeR_of h
theorem adats_mem {α : Type} {k : Nat} {f : α → T} : ∀ {xs : List α}, (∀ a ∈ xs, adat k (f a) = true) → adats k (xs.map f) = true
  | [], _ => rfl
  | x :: xs, h => by rw [List.map_cons]; unfold adats; rw [h x (List.mem_cons_self ..), adats_mem fun a ha => h a (List.mem_cons_of_mem _ ha)]; rfl
theorem adat_L {α : Type} {k : Nat} {f : α → T} {xs : List α} (h : ∀ a ∈ xs, adat k (f a) = true) (hl : xs.length ≤ 1000000) : adat (k + 1) (eL f xs) = true := by
  unfold eL adat
  rw [adats_mem h, List.length_map, decide_eq_true hl]; rfl
theorem adat_T' {α : Type} {k : Nat} {f : α → T} {xs : List α} (h : ∀ a ∈ xs, adat k (f a) = true) (hl : xs.length ≤ 1000000) : adat (k + 1) (eT f xs) = true := by
  unfold eT adat
  rw [adats_mem h, List.length_map, decide_eq_true hl]; rfl
theorem alikeR_LTI {xs : List (List Int)} (hl : xs.length ≤ 1000000) (h : ∀ x ∈ xs, x.length ≤ 1000000) : alikeR (eL (eT eI)) xs xs = .ok true :=
  alikeR_of (adat_L (k := 6) (fun a ha => adat_T' (k := 5) (fun _ _ => adat_I _) (h a ha)) hl)
theorem alikeR_TTI {xs : List (List Int)} (hl : xs.length ≤ 1000000) (h : ∀ x ∈ xs, x.length ≤ 1000000) : alikeR (eT (eT eI)) xs xs = .ok true :=
  alikeR_of (adat_T' (k := 6) (fun a ha => adat_T' (k := 5) (fun _ _ => adat_I _) (h a ha)) hl)
end FL.NL


/-! MT: triads: the program's own defs. -/
namespace FL.NL
open PySem
theorem need_shape_ok {m th fi : Int} (h : Shp m th fi) : N.triads_need_shape m th fi = .ok () := by
  obtain ⟨m0, m1, t0, t1, f0, f1, a, b, c⟩ := h
  unfold N.triads_need_shape
  rw [is_in_ok m0 m1, R.bind_ok]
  simp only [Bool.not_true, Bool.false_eq_true, if_false]
  rw [is_in_ok t0 t1, R.bind_ok]
  simp only [Bool.not_true, Bool.false_eq_true, if_false]
  rw [is_in_ok f0 f1, R.bind_ok]
  simp only [Bool.not_true, R.bind_ok, Bool.false_eq_true, if_false]
  rw [mulR_64 (by omega) (by omega) (by omega) (by omega), R.bind_ok, modR_pos (by omega), R.bind_ok]
  simp only [a, decide_false, Bool.false_eq_true, if_false]
  rw [mulR_64 (by omega) (by omega) (by omega) (by omega), R.bind_ok, modR_pos (by omega), R.bind_ok]
  simp only [b, decide_false, Bool.false_eq_true, if_false]
  rw [modR_pos (by omega), R.bind_ok]
  simp only [c, decide_false, R.bind_ok, Bool.false_eq_true, if_false]
theorem need_triad_ok {m : Int} {t : Tri} (h : TOk m t) : N.triads_need_triad m t = .ok () := by
  obtain ⟨h0, h1⟩ := h
  unfold N.triads_need_triad
  simp only [Bool.not_true, Bool.false_eq_true, if_false, decide_true]
  rw [is_in_ok h0 (by omega), R.bind_ok]
  simp only [Bool.not_true, R.bind_ok, Bool.false_eq_true, if_false]
theorem in_plr {w : Str} (h : w = sP ∨ w = sL ∨ w = sR) : inSR w (PySem.Str.ofString "PLR") = .ok true := by rcases h with rfl | rfl | rfl <;> kernel_rfl
theorem need_moves_ok {z : Str} (h : Mvs z 200) : N.triads_need_moves z = .ok () := by
  have hl := h.len
  unfold N.triads_need_moves
  simp only [Bool.not_true, Bool.false_eq_true, if_false]
  rw [lenS_ok (by omega), R.bind_ok]
  have : ¬ ((z.length : Int) > 200) := by omega
  simp only [this, decide_false, Bool.false_eq_true, if_false]
  rw [cmpR_ok (g := fun _ => true) (by rw [chS_len]; omega) (fun w hw => by rw [in_plr (h.all w hw), R.bind_ok]), R.bind_ok]
  have : (((chS z).map fun _ => true).all idB) = true := by simp [idB]
  rw [this]
  simp only [Bool.not_true, R.bind_ok, Bool.false_eq_true, if_false]
theorem sort_TIx {xs : List Int} : sortR asI (eT eI xs) = .ok (kSort PyData.int xs) := sort_ok key_I (by decide) (fun _ => rfl) (.inr fun _ _ => rfl) (.inr rfl)
theorem move_of_ok {m th fi : Int} (hm : 0 < m) {t : Tri} {s : Str} : N.triads_move_of m th fi t s = .ok (mv m th fi t s) := by
  unfold N.triads_move_of mv
  by_cases hp : s = sP
  · simp [hp]
  · have : ¬ s = PySem.Str.ofString "P" := hp
    simp only [hp, this, decide_false, Bool.false_eq_true, if_false]
    cases hb : t.2.1 with
    | true => simp only [if_true, modR_pos hm, R.bind_ok]; rfl
    | false => simp only [Bool.false_eq_true, if_false, modR_pos hm, R.bind_ok]; rfl
theorem law_move_ok {m th fi : Int} (hm : 0 < m) {t : Tri} {s : Str} : N._law_move m th fi t s = .ok (mv m th fi t s) := by
  unfold N._law_move mv
  by_cases hp : s = sP
  · simp [hp]
  · have : ¬ s = PySem.Str.ofString "P" := hp
    simp only [hp, this, decide_false, Bool.false_eq_true, if_false]
    cases hb : t.2.1 with
    | true => simp only [if_true, modR_pos hm, R.bind_ok]; rfl
    | false => simp only [Bool.false_eq_true, if_false, modR_pos hm, R.bind_ok]; rfl
theorem walked_ok {m th fi : Int} (hm : 0 < m) {t : Tri} {z : Str} : N.triads_walked m th fi t z = .ok (wk m th fi t (chS z)) := by
  unfold N.triads_walked
  have := (forR_fold (body := fun (x : Str) (st1 : (Int × (Bool × Unit))) => (N.triads_move_of m th fi st1 x).bind fun told2 => .ok told2) (g := mv m th fi) (fun _ => True) (xs := chS z) (s := t) trivial fun x _ s _ => ⟨by rw [move_of_ok hm, R.bind_ok], trivial⟩).1
  rw [this, R.bind_ok]; rfl
theorem walk_ok {m th fi : Int} (h : Shp m th fi) {t : Tri} (ht : TOk m t) {z : Str} (hz : Mvs z 200) : N.triads_walk m th fi t z = .ok (wk m th fi t (chS z)) := by
  have := h.m0
  unfold N.triads_walk
  rw [need_shape_ok h, R.bind_ok, need_triad_ok ht, R.bind_ok, need_moves_ok hz, R.bind_ok, walked_ok (by omega), R.bind_ok]
theorem triad_body : R.All (fun c => c = .nx () ∨ ∃ m th fi, Shp m th fi ∧ m ≤ 32 ∧ c = .rt (m, th, fi, ())) (((N._law_taken (30 : Int)).noX).bind fun d => ((.ok ((3 : Int) + d) : R Int)).bind fun many => ((N._law_taken (many - (2 : Int))).noX).bind fun d2 => ((.ok ((1 : Int) + d2) : R Int)).bind fun third => ((N._law_taken ((many - (1 : Int)) - third)).noX).bind fun d3 => ((.ok ((third + (1 : Int)) + d3) : R Int)).bind fun fifth => (mulR (2 : Int) third).bind fun t => (modR t many).bind fun t2 => (if (!decide (t2 = fifth)) = true then (mulR (2 : Int) fifth).bind fun t3 => (modR t3 many).bind fun t4 => (if (!decide (t4 = third)) = true then (modR (third + fifth) many).bind fun t5 => .ok (!decide (t5 = (0 : Int))) else .ok false).bind fun t6 => .ok t6 else .ok false).bind fun t7 => if t7 = true then .ok (.rt (many, third, fifth, ())) else .ok (.nx ()) : R (Ct Unit (Int × Int × Int × Unit))) := by
  rw [R.All_bind, R.All_nx]
  refine All_taken (by decide) (by decide) fun d d0 d1 => ?_
  rw [R.bind_ok, R.All_bind, R.All_nx]
  refine All_taken (by omega) (by omega) fun e e0 e1 => ?_
  rw [R.bind_ok, R.All_bind, R.All_nx]
  refine All_taken (by omega) (by omega) fun f f0 f1 => ?_
  generalize hm : 3 + d = m at *
  generalize ht : 1 + e = th at *
  rw [R.bind_ok]
  generalize hf : th + 1 + f = fi at *
  rw [mulR_64 (by omega) (by omega) (by omega) (by omega), R.bind_ok, modR_pos (by omega), R.bind_ok]
  by_cases a : 2 * th % m = fi
  · simp only [a, decide_true, Bool.not_true, Bool.false_eq_true, if_false, R.bind_ok]; exact .inl rfl
  · simp only [a, decide_false, Bool.not_false, if_true]
    rw [mulR_64 (by omega) (by omega) (by omega) (by omega), R.bind_ok, modR_pos (by omega), R.bind_ok]
    by_cases b : 2 * fi % m = th
    · simp only [b, decide_true, Bool.not_true, Bool.false_eq_true, if_false, R.bind_ok]; exact .inl rfl
    · simp only [b, decide_false, Bool.not_false, if_true]
      rw [modR_pos (by omega), R.bind_ok]
      by_cases c : (th + fi) % m = 0
      · simp only [c, decide_true, Bool.not_true, Bool.false_eq_true, if_false, R.bind_ok]; exact .inl rfl
      · simp only [c, decide_false, Bool.not_false, if_true, R.bind_ok]
        exact .inr ⟨m, th, fi, ⟨by omega, by omega, by omega, by omega, by omega, by omega, a, b, c⟩, by omega, rfl⟩
theorem triads_all {W : Int × Int × Int × Unit → Prop} (hw : ∀ m th fi, Shp m th fi → m ≤ 32 → W (m, th, fi, ())) : R.All W N._law_triads := by
  unfold N._law_triads
  rw [rgR_0 (by decide) (by decide), R.bind_ok, R.All_bind]
  generalize rg 0 (50 : Int).toNat = xs
  induction xs with
  | nil => exact hw 12 4 7 ⟨by decide, by decide, by decide, by decide, by decide, by decide, by decide, by decide, by decide⟩ (by decide)
  | cons x xs ih =>
    unfold forC
    rw [R.All_bind]
    refine triad_body.mono fun c hc => ?_
    rcases hc with rfl | ⟨m, th, fi, h, hm, rfl⟩
    · exact ih
    · exact hw m th fi h hm
end FL.NL


/-! MK: chains of equal steps: the program's own defs (lines of k52). -/
namespace FL.NL
open PySem PySem.W
theorem fold_dd : ∀ {xs st : List Int}, st.Nodup → (xs.foldl PyProof.Rows.step_dedup st).Nodup ∧ ∀ a, a ∈ xs.foldl PyProof.Rows.step_dedup st ↔ a ∈ st ∨ a ∈ xs
  | [], st, h => ⟨h, fun a => by simp⟩
  | x :: xs, st, h => by
    have e : PyProof.Rows.step_dedup st x = if x ∈ st then st else st ++ [x] := by
      unfold PyProof.Rows.step_dedup
      have : (st.any fun y => y == x) = decide (x ∈ st) := by
        rw [Bool.eq_iff_iff, List.any_eq_true, decide_eq_true_eq]
        constructor
        · rintro ⟨y, h1, h2⟩; exact (beq_iff_eq.mp h2) ▸ h1
        · intro h; exact ⟨x, h, by simp⟩
      rw [this]
      by_cases h : x ∈ st
      · rw [if_pos (decide_eq_true h), if_pos h]
      · rw [if_neg (by simpa using h), if_neg h]
    rw [List.foldl_cons, e]
    by_cases c : x ∈ st
    · rw [if_pos c]
      obtain ⟨h1, h2⟩ := fold_dd (xs := xs) h
      refine ⟨h1, fun a => ?_⟩
      rw [h2, List.mem_cons]
      constructor
      · rintro (h | h)
        · exact .inl h
        · exact .inr (.inr h)
      · rintro (h | rfl | h)
        · exact .inl h
        · exact .inl c
        · exact .inr h
    · rw [if_neg c]
      have hn : (st ++ [x]).Nodup := by
        rw [List.nodup_append]
        exact ⟨h, by simp, fun a ha b hb e2 => by simp at hb; exact c (hb ▸ e2 ▸ ha)⟩
      obtain ⟨h1, h2⟩ := fold_dd (xs := xs) hn
      refine ⟨h1, fun a => ?_⟩
      rw [h2, List.mem_append, List.mem_singleton, List.mem_cons]
      constructor
      · rintro ((h | h) | h)
        · exact .inl h
        · exact .inr (.inl h)
        · exact .inr (.inr h)
      · rintro (h | h | h)
        · exact .inl (.inl h)
        · exact .inl (.inr h)
        · exact .inr h
theorem met_dd {ns : List Int} : (metI ns).length = (dd ns).length := by
  have e : (List.range ns.length).map (fun i => ns.getD i 0) = ns := by
    apply List.ext_getElem
    · rw [List.length_map, List.length_range]
    · intro i h1 h2
      rw [List.getElem_map, List.getElem_range, List.getD_eq_getElem?_getD, List.getElem?_eq_getElem h2]
      rfl
  unfold metI PyProof.Rows.firstMet
  rw [e]
  obtain ⟨h1, h2⟩ := fold_dd (xs := ns) (st := []) .nil
  exact dd_len h1 fun a => by rw [h2]; simp
theorem lset_T {xs : List Int} (h : xs.length ≤ 4000) : lsetXR (eT eI xs) = .ok ((dd xs).length : Nat) := lset_TI h
theorem lset_L {xs : List Int} (h : xs.length ≤ 4000) : lsetXR (eL eI xs) = .ok ((dd xs).length : Nat) := by
  have e : lenSetX (eL eI xs) = some (.int ((dd xs).length : Nat)) := by
    show (match intsT (xs.map eI) with
      | some ns => if ns.length ≤ 4000 then some (T.int ((metI ns).length : Nat)) else none
      | none => match tupsT (xs.map eI) with
        | some ks => if ks.length < 64 then some (.int ((dd ks).length : Nat)) else none
        | none => none) = _
    rw [NL.intsT_map]
    simp only [h, if_true, met_dd]
  unfold lsetXR
  rw [e]
  unfold optR
  rw [R.bind_ok]; rfl
/-! chains -/
def chn (M s : Int) (n : Nat) : List Int := kSort PyData.int ((rg 0 n).map fun i => (i * s) % M)
def glf (M : Int) (L : List Int) : List Int := (enumL 0 L).map fun p => (L ++ [L.getD 0 0 + M]).getD (p.1 + 1).toNat 0 - p.2.1
theorem chn_len {M s : Int} {n : Nat} : (chn M s n).length = n := by unfold chn; rw [kSort_perm.length_eq, List.length_map, rg_len]
theorem atR_D {X : List Int} {i : Int} (h0 : 0 ≤ i) (h1 : i < X.length) : atR X i = .ok (X.getD i.toNat 0) := by
  refine atR_pos h0 ?_
  have : i.toNat < X.length := by omega
  simp [List.getD, this]
theorem glf_len {M : Int} {L : List Int} : (glf M L).length = L.length := by unfold glf; rw [List.length_map, enum_len]
theorem com_ok {a b : Int} (hb : b.natAbs < 2 ^ 100) : N.limits_common a b = .ok (Int.gcd a b : Nat) := by
  unfold N.limits_common
  rw [gcd_ok hb (by decide), R.bind_ok]
/-- many, step, their common divisor and parts -/
structure Ms (M s g q p : Int) : Prop where
  M0 : 1 ≤ M
  M1 : M ≤ 120
  s0 : 0 ≤ s
  s1 : s < M
  gc : (Int.gcd M s : Nat) = g
  g0 : 0 < g
  eM : M = g * q
  es : s = g * p
  q0 : 1 ≤ q
  q1 : q ≤ 120
  p0 : 0 ≤ p
  pq : p < q
  dM : M / g = q
  ds : s / g = p
theorem ms_of {M s : Int} (M0 : 1 ≤ M) (M1 : M ≤ 120) (s0 : 0 ≤ s) (s1 : s < M) : ∃ g q p, Ms M s g q p := by
  have hg : 0 < Int.gcd M s := Int.gcd_pos_of_ne_zero_left s (by omega)
  obtain ⟨q, hq⟩ : ((Int.gcd M s : Nat) : Int) ∣ M := Int.gcd_dvd_left ..
  obtain ⟨p, hp⟩ : ((Int.gcd M s : Nat) : Int) ∣ s := Int.gcd_dvd_right ..
  have hg2 : (0 : Int) < (Int.gcd M s : Nat) := by omega
  refine ⟨(Int.gcd M s : Nat), q, p, M0, M1, s0, s1, rfl, hg2, hq, hp, ?_, ?_, ?_, ?_, ?_, ?_⟩
  · exact Int.pos_of_mul_pos_right (a := ((Int.gcd M s : Nat) : Int)) (by omega) (by omega)
  · have q0 : 0 < q := Int.pos_of_mul_pos_right (a := ((Int.gcd M s : Nat) : Int)) (by omega) (by omega)
    have := Int.mul_le_mul_of_nonneg_right (show (1 : Int) ≤ (Int.gcd M s : Nat) by omega) (show 0 ≤ q by omega)
    omega
  · apply Classical.byContradiction
    intro c
    have := Int.mul_neg_of_pos_of_neg hg2 (show p < 0 by omega)
    omega
  · apply Classical.byContradiction
    intro c
    have := Int.mul_le_mul_of_nonneg_left (show q ≤ p by omega) (show (0 : Int) ≤ (Int.gcd M s : Nat) by omega)
    omega
  · have := Int.mul_ediv_cancel_left (a := ((Int.gcd M s : Nat) : Int)) q (by omega); rw [← hq] at this; exact this
  · have := Int.mul_ediv_cancel_left (a := ((Int.gcd M s : Nat) : Int)) p (by omega); rw [← hp] at this; exact this
section
variable {M s g q p : Int}
theorem Ms.nz (h : Ms M s g q p) {x : Int} (x0 : 0 < x) (x1 : x < q) : rs M s x ≠ 0 := fun e => by
  have h1 : M ∣ x * s := Int.dvd_of_emod_eq_zero e
  have h2 := rounds_least (m := M) (f := s) (by have := h.M0; omega) h1
  rw [h.gc, h.dM] at h2
  have := Int.le_of_dvd x0 h2
  omega
theorem chn_mem {n : Nat} {x : Int} : x ∈ chn M s n ↔ ∃ i : Int, 0 ≤ i ∧ i < n ∧ x = rs M s i := by
  unfold chn
  rw [kSort_perm.mem_iff, List.mem_map]
  constructor
  · rintro ⟨i, hi, rfl⟩; have := mem_rg.mp hi; exact ⟨i, by omega, by omega, rfl⟩
  · rintro ⟨i, i0, i1, rfl⟩; exact ⟨i, mem_rg.mpr (by omega), rfl⟩
theorem chn_asc (h : Ms M s g q p) {n : Nat} (hn : (n : Int) ≤ q) : (chn M s n).Pairwise (· < ·) := by
  have R := rs_rst (s := s) (show 0 < M by have := h.M0; omega)
  refine asc_up kSort_asc (kSort_perm.nodup_iff.mpr ?_)
  refine List.pairwise_map.mpr (rg_pair.imp_of_mem fun {a b} ha hb hab => ?_)
  have ha := mem_rg.mp ha; have hb := mem_rg.mp hb
  intro e
  have e : rs M s a = rs M s b := e
  have h1 := R.ad (b - a) a
  rw [show b - a + a = b by omega] at h1
  have h2 := h.nz (x := b - a) (by omega) (by omega)
  have := R.lo (b - a); have := R.hi (b - a)
  omega
def lo (t : List Int) : Int := t.getD 0 0
def hi (t : List Int) : Int := t.getD (t.length - 1) 0
theorem at_lo {t : List Int} (h : 0 < t.length) : atR t 0 = .ok (lo t) := atR_D (by decide) (by omega)
theorem at_hi {t : List Int} (h : 0 < t.length) : atR t (-(1 : Int)) = .ok (hi t) := by
  have hx : t.length - 1 < t.length := by omega
  unfold atR idx
  rw [if_neg (by decide), if_pos (by omega), show (-(1 : Int) + (t.length : Int)).toNat = t.length - 1 by omega]
  unfold hi
  simp [List.getD, hx]
theorem lo_mem {t : List Int} (h : 0 < t.length) : lo t ∈ t := by
  unfold lo; simp [List.getD, h]
theorem hi_mem {t : List Int} (h : 0 < t.length) : hi t ∈ t := by
  have hx : t.length - 1 < t.length := by omega
  unfold hi; simp [List.getD, hx]
theorem lohi {t : List Int} (h : t.Pairwise (· < ·)) {x : Int} (hx : x ∈ t) : lo t ≤ x ∧ x ≤ hi t := by
  obtain ⟨i, hi', rfl⟩ := List.getElem_of_mem hx
  have p := List.pairwise_iff_getElem.mp h
  have h2 : t.length - 1 < t.length := by omega
  have h0 : 0 < t.length := by omega
  constructor
  · have e : lo t = t[0] := by unfold lo; simp [List.getD, h0]
    rw [e]
    by_cases c : i = 0
    · subst c; exact Int.le_refl _
    · have := p 0 i h0 hi' (by omega); omega
  · have e : hi t = t[t.length - 1] := by unfold hi; simp [List.getD, h2]
    rw [e]
    by_cases c : i = t.length - 1
    · subst c; exact Int.le_refl _
    · have := p i (t.length - 1) hi' h2 (by omega); omega

end
end FL.NL


set_option maxHeartbeats 2000000
namespace Law
open PySem PySem.Spec FL FL.NL TW
section
variable {m th fi : Int} {t0 : Tri}
theorem chs_lpr : chS (PySem.Str.ofString "LPR") = ltrs := by decide
theorem least_it (hs : Shp m th fi) (h0 : TOk m t0) {other : Tri} (h1 : TOk m other) : ∃ K, N.triads_least_moves m th fi t0 other = .ok (mGt (itB m th fi t0 K).1 other) ∧ ((mGt (itB m th fi t0 K).1 other).isSome = true ∨ (itB m th fi t0 K).2 = []) := by
  have hm := hs.m0
  have hm1 := hs.m1
  obtain ⟨K, e, hq⟩ := bw_loop (m := m) (th := th) (fi := fi) (t0 := t0) (M := N.triads_move_of m th fi) (fun x s => move_of_ok (by omega)) (by omega) (by omega) h0 (c := fun (st1 : ((Dic (Int × (Bool × Unit)) Str) × (List (Int × (Bool × Unit))))) => (if (!(mGt st1.1 other).isSome) = true then (neR ((eL (eP (aC eI (aC eB aN)))) st1.2) ((eL (eP (aC eI (aC eB aN)))) [])).bind fun t => .ok t else .ok false).bind fun t2 => .ok t2) (q := fun p => !(mGt p.1 other).isSome && !p.2.isEmpty) (fun p => by
    by_cases c : (mGt p.1 other).isSome = true
    · simp only [c, Bool.not_true, Bool.false_eq_true, if_false, R.bind_ok, Bool.false_and]
    · have c' : (mGt p.1 other).isSome = false := by simpa using c
      simp only [c', Bool.not_false, if_true, Bool.true_and]
      rw [neR_rim, R.bind_ok, R.bind_ok]) (fun d => by simp) (2 * m.toNat) 0 1000000 (by omega) (by omega) (by omega)
  refine ⟨K, ?_, ?_⟩
  · unfold N.triads_least_moves
    rw [need_shape_ok hs, R.bind_ok, need_triad_ok h0, R.bind_ok, need_triad_ok h1, R.bind_ok]
    simp only [chs_lpr]
    exact (congrArg (fun r : R (TD × List Tri) => r.bind fun so3 => (.ok (mGt so3.1 other) : R (Option Str))) e).trans (by rw [R.bind_ok])
  · by_cases c : (mGt (itB m th fi t0 K).1 other).isSome = true
    · exact .inl c
    · have c' : (mGt (itB m th fi t0 K).1 other).isSome = false := by simpa using c
      simp only [c', Bool.not_false, Bool.true_and] at hq
      refine .inr (List.isEmpty_iff.mp ?_)
      simpa using hq
theorem law_it (hs : Shp m th fi) (h0 : TOk m t0) : ∃ K, (whileR 1000000 (fun (st1 : ((Dic (Int × (Bool × Unit)) Str) × (List (Int × (Bool × Unit))))) => (neR ((eL (eP (aC eI (aC eB aN)))) st1.2) ((eL (eP (aC eI (aC eB aN)))) [])).bind fun t => .ok t) (fun (st1 : ((Dic (Int × (Bool × Unit)) Str) × (List (Int × (Bool × Unit))))) => (forR st1.2 (fun (x : (Int × (Bool × Unit))) (st2 : ((Dic (Int × (Bool × Unit)) Str) × (List (Int × (Bool × Unit))))) => (forR [(PySem.Str.ofString "L"), (PySem.Str.ofString "P"), (PySem.Str.ofString "R")] (fun (x2 : Str) (st3 : ((Dic (Int × (Bool × Unit)) Str) × (List (Int × (Bool × Unit))))) => (N._law_move m th fi x x2).bind fun more => (if (!(mGt st3.1 more).isSome) = true then (mgR st3.1 x).bind fun t2 => (catS t2 x2).bind fun t3 => (msR st3.1 more t3).bind fun known => (appR st3.2 more).bind fun later => .ok (known, later) else .ok (st3.1, st3.2) : R ((Dic (Int × (Bool × Unit)) Str) × (List (Int × (Bool × Unit))))).bind fun st4 => .ok (st4.1, st4.2)) (st2.1, st2.2)).bind fun so => .ok (so.1, so.2)) (st1.1, [])).bind fun so2 => .ok (so2.1, so2.2)) ([(t0, (PySem.Str.ofString ""))], [t0])) = .ok (itB m th fi t0 K) ∧ (itB m th fi t0 K).2 = [] := by
  have hm := hs.m0
  have hm1 := hs.m1
  obtain ⟨K, e, hq⟩ := bw_loop (m := m) (th := th) (fi := fi) (t0 := t0) (M := N._law_move m th fi) (fun x s => law_move_ok (by omega)) (by omega) (by omega) h0 (c := fun (st1 : ((Dic (Int × (Bool × Unit)) Str) × (List (Int × (Bool × Unit))))) => (neR ((eL (eP (aC eI (aC eB aN)))) st1.2) ((eL (eP (aC eI (aC eB aN)))) [])).bind fun t => .ok t) (q := fun p => !p.2.isEmpty) (fun p => by rw [neR_rim, R.bind_ok]) (fun d => rfl) (2 * m.toNat) 0 1000000 (by omega) (by omega) (by omega)
  refine ⟨K, e, List.isEmpty_iff.mp ?_⟩
  simpa using hq
/-- a layer that is not empty has as many triads before it -/
theorem it_long (hm : 0 < m) (h0 : TOk m t0) : ∀ n, (itB m th fi t0 n).2 ≠ [] → n + 1 ≤ (itB m th fi t0 n).1.length
  | 0, _ => Nat.le_refl _
  | n + 1, h => by
    have g : (itB m th fi t0 (n + 1)).1.length = (itB m th fi t0 n).1.length + (itB m th fi t0 (n + 1)).2.length := (turn_ok hm h0 (it_BI (th := th) (fi := fi) hm h0 n)).2.2
    have hne : (itB m th fi t0 n).2 ≠ [] := fun e => by
      apply h
      show (turnB m th fi (itB m th fi t0 n)).2 = []
      unfold turnB
      rw [e]; rfl
    have := it_long hm h0 n hne
    have := List.length_pos_iff.mpr h
    omega
theorem it_short (hm : 0 < m) (h0 : TOk m t0) {K : Nat} {y : Tri} {z : Str} (h : mGt (itB m th fi t0 K).1 y = some z) : z.length + 1 ≤ 2 * m.toNat := by
  obtain ⟨_, w1, w2, _⟩ := (it_BI (th := th) (fi := fi) hm h0 K).ok y z h
  have hs := (it_BI (th := th) (fi := fi) hm h0 z.length).all (chS z) w2 (by rw [chS_len]; omega)
  rw [w1] at hs
  obtain ⟨z', ez'⟩ := Option.isSome_iff_exists.mp hs
  have e := it_same hm h0 h ez'
  subst e
  have hr : y ∈ (itB m th fi t0 z.length).2 := ((it_BI (th := th) (fi := fi) hm h0 z.length).rim y).mpr ⟨z, ez', rfl⟩
  have := it_long (th := th) (fi := fi) hm h0 z.length fun e => by rw [e] at hr; cases hr
  have := it_len (th := th) (fi := fi) hm h0 z.length
  omega
/-- where nothing is left, all is told -/
theorem it_all (hm : 0 < m) (h0 : TOk m t0) {K : Nat} (e : (itB m th fi t0 K).2 = []) {ws : List Str} (hw : Lt ws) : (mGt (itB m th fi t0 K).1 (wk m th fi t0 ws)).isSome = true := by
  have h := it_BI (th := th) (fi := fi) hm h0 K
  rw [e] at h
  exact h.closed _ ws rfl hw
theorem it_told (hm : 0 < m) (h0 : TOk m t0) {K K2 : Nat} {other : Tri} (c : (mGt (itB m th fi t0 K).1 other).isSome = true ∨ (itB m th fi t0 K).2 = []) (e : (itB m th fi t0 K2).2 = []) : mGt (itB m th fi t0 K).1 other = mGt (itB m th fi t0 K2).1 other := by
  cases h1 : mGt (itB m th fi t0 K).1 other with
  | some z =>
    obtain ⟨_, w1, w2, _⟩ := (it_BI (th := th) (fi := fi) hm h0 K).ok other z h1
    have := it_all hm h0 e w2
    rw [w1] at this
    obtain ⟨z', ez'⟩ := Option.isSome_iff_exists.mp this
    rw [ez', it_same hm h0 h1 ez']
  | none =>
    cases h2 : mGt (itB m th fi t0 K2).1 other with
    | none => rfl
    | some z =>
      obtain ⟨_, w1, w2, _⟩ := (it_BI (th := th) (fi := fi) hm h0 K2).ok other z h2
      have c2 := c.resolve_left (by rw [h1]; simp)
      have := it_all hm h0 c2 w2
      rw [w1, h1] at this
      cases this
theorem reached_ok (hs : Shp m th fi) (h0 : TOk m t0) {K : Nat} (e : (itB m th fi t0 K).2 = []) : N.triads_reached m th fi = .ok ((itB m th fi t0 K).1.length : Int) := by
  have hm := hs.m0
  have hm1 := hs.m1
  have hs' := hs
  obtain ⟨_, _, a0, a1, b0, b1, _⟩ := hs
  have hB := it_BI (th := th) (fi := fi) (show 0 < m by omega) h0 K
  generalize hg : ((Int.gcd ((Int.gcd th fi : Nat) : Int) m : Nat) : Int) = g
  have gp : 0 < g := by
    rw [← hg]
    have : Int.gcd ((Int.gcd th fi : Nat) : Int) m ≠ 0 := fun z => by
      have := (Int.gcd_eq_zero_iff.mp z).2
      omega
    omega
  have gd : g ∣ m := by rw [← hg]; exact Int.gcd_dvd_right ..
  have cnt := cls_count (show 0 < m by omega) gp gd h0 (l := mK (itB m th fi t0 K).1) hB.nd fun u => by
    rw [← rch_iff (show 0 < m by omega) hg.symm h0, bK_mem]
    constructor
    · intro h
      obtain ⟨z, ez⟩ := Option.isSome_iff_exists.mp h
      obtain ⟨_, w1, w2, _⟩ := hB.ok u z ez
      exact ⟨chS z, w2, w1⟩
    · rintro ⟨ws, hw, rfl⟩
      exact it_all (by omega) h0 e hw
  have ln : (mK (itB m th fi t0 K).1).length = (itB m th fi t0 K).1.length := by unfold mK; rw [List.length_map]
  rw [ln] at cnt
  unfold N.triads_reached
  rw [need_shape_ok hs', R.bind_ok, com_ok (by omega), R.bind_ok, com_ok (by omega), R.bind_ok, hg]
  have hq : divR m g = .ok (m / g) := divR_pos gp (by have := Int.le_of_dvd (show 0 < m by omega) gd; omega)
  have q0 : 0 ≤ m / g := Int.ediv_nonneg (by omega) (by omega)
  have q1 : m / g ≤ m := Int.ediv_le_self _ (by omega)
  rw [hq, R.bind_ok, mulR_64 (by omega) (by omega) (by omega) (by omega), R.bind_ok, cnt]
end
theorem forC_nx {α σ β : Type} {xs : List α} {body : α → σ → R (Ct σ β)} {s : σ} (h : ∀ x ∈ xs, body x s = .ok (.nx s)) : forC xs body s = .ok (.nx s) := by
  induction xs with
  | nil => rfl
  | cons x xs ih =>
    unfold forC
    rw [h x List.mem_cons_self, R.bind_ok]
    exact ih fun y hy => h y (List.mem_cons_of_mem _ hy)
theorem plain (script : List Int) : R.All (fun b => b = true) (N.law script) := by
  unfold N.law
  rw [R.All_bind, R.All_nx]
  refine triads_all fun m th fi h hm => ?_
  have hm0 := h.m0
  have hmp : 0 < m := by omega
  simp only
  rw [R.All_bind, R.All_nx]
  refine All_taken (by omega) (by omega) fun r r0 r1 => ?_
  rw [R.All_bind, R.All_nx]
  refine All_taken (by decide) (by decide) fun d2 _ _ => ?_
  generalize decide (d2 = 0) = u
  rw [R.All_bind, R.All_nx]
  refine All_taken (by omega) (by omega) fun r' r0' r1' => ?_
  rw [R.All_bind, R.All_nx]
  refine All_taken (by decide) (by decide) fun d4 _ _ => ?_
  generalize decide (d4 = 0) = u'
  have h0 : TOk m ((r, u, ()) : Tri) := ⟨r0, r1⟩
  have h1 : TOk m ((r', u', ()) : Tri) := ⟨r0', r1'⟩
  generalize ((r, u, ()) : Tri) = t at h0
  generalize ((r', u', ()) : Tri) = o at h1
  obtain ⟨K2, e2, c2⟩ := law_it h h0
  obtain ⟨K, e1, c1⟩ := least_it h h0 h1
  rw [e2, R.bind_ok, e1, R.bind_ok, it_told hmp h0 c1 c2]
  clear e1 e2 c1
  rw [alikeR_eq rfl (by cases mGt (itB m th fi t K2).1 o <;> rfl), R.bind_ok]
  simp only [Bool.not_true, Bool.false_eq_true, if_false]
  rw [reached_ok h h0 c2, R.bind_ok, alikeR_I, R.bind_ok]
  simp only [Bool.not_true, R.bind_ok, Bool.false_eq_true, if_false]
  cases ez : mGt (itB m th fi t K2).1 o with
  | none =>
    simp only [Option.isSome_none, Bool.false_eq_true, if_false]
    exact R.All_ok.mpr rfl
  | some z =>
    simp only [Option.isSome_some, if_true]
    have eu : unO (some z) = .ok z := by unfold unO; rfl
    obtain ⟨_, w1, w2, _⟩ := (it_BI (th := th) (fi := fi) hmp h0 K2).ok o z ez
    have lz := it_short hmp h0 ez
    have hz : Mvs z 200 := ⟨fun w hw => ltrs_plr.mp (w2 w hw), by omega⟩
    rw [eu, R.bind_ok, walk_ok h h0 hz, R.bind_ok, w1, neR_tri, R.bind_ok]
    simp only [decide_true, Bool.not_true, Bool.false_eq_true, if_false]
    rw [forC_nx fun x hx => ?_, R.bind_ok]
    · exact R.All_ok.mpr rfl
    · obtain ⟨zx, ex⟩ := Option.isSome_iff_exists.mp (bK_mem.mp hx)
      have lx := it_short hmp h0 ex
      rw [forC_nx fun s hs => ?_, R.bind_ok]
      have hs : s ∈ ltrs := hs
      have emg : mgR (itB m th fi t K2).1 x = .ok zx := by unfold mgR; rw [ex]
      rw [emg, R.bind_ok, lenS_ok (by omega), R.bind_ok, R.bind_ok, lenS_ok (by omega), R.bind_ok]
      by_cases c : ((zx.length : Int) = (z.length : Int) - 1)
      · simp only [c, decide_true, if_true]
        rw [law_move_ok (by omega), R.bind_ok, eqR_tri, R.bind_ok]
        by_cases c3 : mv m th fi x s = o
        · simp only [c3, decide_true, if_true]
          have ls := (ch_one (ltrs_plr.mp hs)).2
          rw [R.bind_ok, catS_ok (by omega), R.bind_ok, R.bind_ok, ltD_str, R.bind_ok]
          have := (it_BO (th := th) (fi := fi) hmp h0 K2).mn o z ez x zx s ex hs c3 (by omega)
          simp only [this, decide_false, R.bind_ok, Bool.false_eq_true, if_false]
        · simp only [c3, decide_false, Bool.false_eq_true, if_false, R.bind_ok]
      · simp only [c, decide_false, Bool.false_eq_true, if_false, R.bind_ok]
theorem law_true : ∀ ns : List Int, ns.length ≤ 63 → lw.F_law [.sl (ns.map T.int)] = .ok (.bl true) [] := fun ns _ => by
  obtain ⟨v, h1, h2⟩ := (n_N_law ns).ok.all (plain ns)
  have h1 : v = true := h1
  subst h1
  exact h2
end Law

set_option maxHeartbeats 4000000
namespace Law
open PySem PySem.Spec L2 FL TW
def topS (i : Nat) : Stmt := PySem.Challenge.pw_temperworks_k83_whole_shortest_moves.main.body.getD i (.Pass ⟨0, 0, 0, 0⟩)
def initS (i : Nat) : Stmt := match topS i with
  | .ClassDef _ _ _ b .. => b.getD 0 (.Pass ⟨0, 0, 0, 0⟩)
  | s => s

structure Top (K : PySem.W.Frag) (mg : Str → Option Value) : Prop where
  b_abs : mg "abs" = none
  b_all : mg "all" = none
  b_bool : mg "bool" = none
  b_int : mg "int" = none
  b_isinstance : mg "isinstance" = none
  b_len : mg "len" = none
  b_list : mg "list" = none
  b_range : mg "range" = none
  b_str : mg "str" = none
  b_tuple : mg "tuple" = none
  c_MOST_STEPS : ∃ t, mg "MOST_STEPS" = some (.int (60) t)
  c_MOST_MOVES : ∃ t, mg "MOST_MOVES" = some (.int (200) t)
  f_is_int : ∃ f fd, Fun K "is_int" "is_int" (topS 6) f fd ∧ mg "is_int" = some (.ref f)
  f_common : ∃ f fd, Fun K "common" "common" (topS 8) f fd ∧ mg "common" = some (.ref f)
  f_move_of : ∃ f fd, Fun K "move_of" "move_of" (topS 14) f fd ∧ mg "move_of" = some (.ref f)
  f_need_moves : ∃ f fd, Fun K "need_moves" "need_moves" (topS 15) f fd ∧ mg "need_moves" = some (.ref f)
  f__law_taken : ∃ f fd, Fun K "_law_taken" "_law_taken" (topS 21) f fd ∧ mg "_law_taken" = some (.ref f)
  f__law_move : ∃ f fd, Fun K "_law_move" "_law_move" (topS 23) f fd ∧ mg "_law_move" = some (.ref f)
  f_is_in : ∃ f fd, Fun K "is_in" "is_in" (topS 7) f fd ∧ mg "is_in" = some (.ref f)
  f_walked : ∃ f fd, Fun K "walked" "walked" (topS 16) f fd ∧ mg "walked" = some (.ref f)
  f__law_triads : ∃ f fd, Fun K "_law_triads" "_law_triads" (topS 24) f fd ∧ mg "_law_triads" = some (.ref f)
  f_need_shape : ∃ f fd, Fun K "need_shape" "need_shape" (topS 12) f fd ∧ mg "need_shape" = some (.ref f)
  f_need_triad : ∃ f fd, Fun K "need_triad" "need_triad" (topS 13) f fd ∧ mg "need_triad" = some (.ref f)
  f_walk : ∃ f fd, Fun K "walk" "walk" (topS 17) f fd ∧ mg "walk" = some (.ref f)
  f_least_moves : ∃ f fd, Fun K "least_moves" "least_moves" (topS 18) f fd ∧ mg "least_moves" = some (.ref f)
  f_reached : ∃ f fd, Fun K "reached" "reached" (topS 19) f fd ∧ mg "reached" = some (.ref f)
  f__law_alike : ∃ f fd, Fun K "_law_alike" "_law_alike" (topS 22) f fd ∧ mg "_law_alike" = some (.ref f)
  f_law : ∃ f fd, Fun K "law" "law" (topS 25) f fd ∧ mg "law" = some (.ref f)
theorem sc_is_int : FnScope ["value"] ["value"] (defScope (topS 6)) := ⟨rfl, rfl, rfl, by decide +kernel, rfl, by decide +kernel, by decide +kernel⟩
theorem k_is_int {P : Program} {w : World} {K : PySem.W.Frag} {mg : Str → Option Value} {base : Heap} (G : Top K mg) : Known P w K mg base 1 "is_int" limits.F_is_int := by
  obtain ⟨f, fd, F, hm⟩ := G.f_is_int
  have b_bool := G.b_bool
  have b_int := G.b_int
  have b_isinstance := G.b_isinstance
  refine ⟨f, fd, ["value"], hm, F.kp, F.binds (fun _ _ _ _ _ _ us hl => match us, hl with | [_], _ => rfl), fn_ok F sc_is_int fun cdv A outer s H E hr => ?_⟩
  have SC := sc_is_int
  exact fs_one (fs_ret (fe_and (fe_isi .int (by rfl) b_isinstance bt_isinstance (by rfl) b_int bt_int (fe_varA (i := 0))) (fe_one (fe_not (fe_isi .bl (by rfl) b_isinstance bt_isinstance (by rfl) b_bool bt_bool (fe_varA (i := 0)))))))
theorem sc_common : FnScope ["one", "other"] ["one", "other"] (defScope (topS 8)) := ⟨rfl, rfl, rfl, by decide +kernel, rfl, by decide +kernel, by decide +kernel⟩
theorem k_common {P : Program} {w : World} {K : PySem.W.Frag} {mg : Str → Option Value} {base : Heap} (G : Top K mg) : Known P w K mg base 1 "common" limits.F_common := by
  obtain ⟨f, fd, F, hm⟩ := G.f_common
  have b_abs := G.b_abs
  refine ⟨f, fd, ["one", "other"], hm, F.kp, F.binds (fun _ _ _ _ _ _ us hl => match us, hl with | [_, _], _ => rfl), fn_ok F sc_common fun cdv A outer s H E hr => ?_⟩
  have SC := sc_common
  exact fs_cons (fs_par rfl SC.nd (i := 0) (j := 1) rfl rfl (by decide) rfl rfl (fxs_cons (fx_t (fe_callB call_abs ct_abs (by rfl) b_abs bt_abs (fa_cons (fe_varA (i := 0)) (fa_nil)))) (fxs_cons (fx_t (fe_callB call_abs ct_abs (by rfl) b_abs bt_abs (fa_cons (fe_varA (i := 1)) (fa_nil)))) (fxs_nil))) rfl)
    (fs_cons (fs_while 1000000 (passes_of rfl) (ft_cmp (op_neT hr.units) ot_ne (fe_varA (i := 1)) (fe_int)) (fs_one (fs_par rfl SC.nd (i := 0) (j := 1) rfl rfl (by decide) rfl rfl (fxs_cons (fx_t (fe_varA (i := 1))) (fxs_cons (fx_t (fe_bin op_modN ot_mod (fe_varA (i := 0)) (fe_varA (i := 1)))) (fxs_nil))) rfl)))
    (fs_one (fs_ret (fe_varA (i := 0)))))
theorem sc_move_of : FnScope ["many", "third", "fifth", "told", "move", "step", "root", "is_upright"] ["many", "third", "fifth", "told", "move"] (defScope (topS 14)) := ⟨rfl, rfl, rfl, by decide +kernel, rfl, by decide +kernel, by decide +kernel⟩
theorem k_move_of {P : Program} {w : World} {K : PySem.W.Frag} {mg : Str → Option Value} {base : Heap} (G : Top K mg) : Known P w K mg base 1 "move_of" triads.F_move_of := by
  obtain ⟨f, fd, F, hm⟩ := G.f_move_of
  refine ⟨f, fd, ["many", "third", "fifth", "told", "move"], hm, F.kp, F.binds (fun _ _ _ _ _ _ us hl => match us, hl with | [_, _, _, _, _], _ => rfl), fn_ok F sc_move_of fun cdv A outer s H E hr => ?_⟩
  have SC := sc_move_of
  exact fs_cons (fs_asg (fe_varA (i := 3)) (fg_tup rfl (fgs_cons (fg_name SC.nd rfl (Or.inl rfl)) (fgs_cons (fg_name SC.nd rfl (Or.inl rfl)) (fgs_nil))) rfl rfl (gs_len (gs_len gs_len0))))
    (fs_cons (fs_if (ft_cmp (op_eqT hr.units) ot_eq (fe_varA (i := 4)) (fe_str)) (fs_one (fs_ret (fe_tup (fa_cons (fe_varA (i := 6)) (fa_cons (fe_not (fe_varA (i := 7))) (fa_nil)))))) (fs_nil))
    (fs_cons (fs_set SC.nd rfl (Or.inl rfl) (fx_t (fe_if (ft_cmp (op_eqT hr.units) ot_eq (fe_varA (i := 4)) (fe_str)) (fe_varA (i := 1)) (fe_bin op_subA ot_subA (fe_varA (i := 1)) (fe_varA (i := 2))))))
    (fs_one (fs_ret (fe_tup (fa_cons (fe_if (ft_val (fe_varA (i := 7))) (fe_bin op_modN ot_mod (fe_bin op_addT ot_add (fe_varA (i := 6)) (fe_varA (i := 5))) (fe_varA (i := 0))) (fe_bin op_modN ot_mod (fe_bin op_subA ot_subA (fe_varA (i := 6)) (fe_varA (i := 5))) (fe_varA (i := 0)))) (fa_cons (fe_not (fe_varA (i := 7))) (fa_nil))))))))
theorem sc_need_moves : FnScope ["value", "sign"] ["value"] (defScope (topS 15)) := ⟨rfl, rfl, rfl, by decide +kernel, rfl, by decide +kernel, by decide +kernel⟩
theorem k_need_moves {P : Program} {w : World} {K : PySem.W.Frag} {mg : Str → Option Value} {base : Heap} (G : Top K mg) : Known P w K mg base 1 "need_moves" triads.F_need_moves := by
  obtain ⟨f, fd, F, hm⟩ := G.f_need_moves
  obtain ⟨t_MOST_MOVES, c_MOST_MOVES⟩ := G.c_MOST_MOVES
  have b_all := G.b_all
  have b_isinstance := G.b_isinstance
  have b_len := G.b_len
  have b_str := G.b_str
  refine ⟨f, fd, ["value"], hm, F.kp, F.binds (fun _ _ _ _ _ _ us hl => match us, hl with | [_], _ => rfl), fn_ok F sc_need_moves fun cdv A outer s H E hr => ?_⟩
  have SC := sc_need_moves
  exact fs_one (fs_if (ft_w (fw_or (ft_not (ft_val (fe_isi .str (by rfl) b_isinstance bt_isinstance (by rfl) b_str bt_str (fe_varA (i := 0))))) (fw_or (ft_cmp op_gt ot_gt (fe_lenA (i := 0) (by rfl) b_len bt_len) (fe_gint (by rfl) c_MOST_MOVES)) (fw_or1 (ft_not (ft_val (fe_callB (cr_all rfl) ct_all (by rfl) b_all bt_all (fa_cons (fe_new (fo_lc (own := [("sign", 1)]) rfl SC.nd (fi_seqA (fe_varA (i := 0))) (blkOk_by (by kernel_rfl)) (fun _ _ _ _ _ => fg_name SC.nd rfl (Or.inl rfl)) (by decide) (fun _ _ _ _ _ => fts_nil) (fun _ _ _ _ _ => fe_cmp (op_inA (units65 hr)) ot_in (fe_varA (i := 1)) (fe_str)))) (fa_nil))))))))) (fss_never) (fs_nil))
theorem sc__law_taken : FnScope ["_law_row", "_law_many", "_law_cell", "_law_found"] ["_law_row", "_law_many"] (defScope (topS 21)) := ⟨rfl, rfl, rfl, by decide +kernel, rfl, by decide +kernel, by decide +kernel⟩
theorem k__law_taken {P : Program} {w : World} {K : PySem.W.Frag} {mg : Str → Option Value} {base : Heap} (G : Top K mg) : KnownM P w K mg base 1 "_law_taken" lw.F__law_taken := by
  obtain ⟨f, fd, F, hm⟩ := G.f__law_taken
  have b_int := G.b_int
  have b_len := G.b_len
  refine ⟨f, fd, ["_law_row", "_law_many"], hm, F.kp, F.binds (fun _ _ _ _ _ _ us hl => match us, hl with | [_, _], _ => rfl), fm_ok F sc__law_taken fun cdv A outer s H E hr => ?_⟩
  have SC := sc__law_taken
  exact fs_cons (fs_if (ft_cmp op_gt ot_gt (fe_ixA (i := 0) rfl (fe_int)) (fe_int)) (fs_cons (fs_set SC.nd rfl (Or.inl rfl) (fx_t (fe_bin op_modN ot_mod (fe_callTy call_int1 ct_intA (by rfl) b_int bt_int (fa_cons (fe_ixA (i := 0) rfl (fe_int)) (fa_nil))) (fe_varA (i := 1)))))
    (fs_cons (fs_setI (i := 0) rfl (by first | exact Or.inl rfl | exact Or.inr (Or.inl rfl) | exact Or.inr (Or.inr rfl)) (fe_int) (fe_bin op_divA ot_divA (fe_ixA (i := 0) rfl (fe_int)) (fe_varA (i := 1))))
    (fs_one (fs_ret (fe_varA (i := 3)))))) (fs_nil))
    (fs_cons (fs_setI (i := 0) rfl (by first | exact Or.inl rfl | exact Or.inr (Or.inl rfl) | exact Or.inr (Or.inr rfl)) (fe_int) (fe_bin op_addT ot_add (fe_ixA (i := 0) rfl (fe_int)) (fe_int)))
    (fs_cons (fs_if (ft_cmp op_gt ot_gt (fe_ixA (i := 0) rfl (fe_int)) (fe_callB call_len ct_len (by rfl) b_len bt_len (fa_cons (fe_ixA (i := 0) rfl (fe_int)) (fa_nil)))) (fs_cons (fs_setI (i := 0) rfl (by first | exact Or.inl rfl | exact Or.inr (Or.inl rfl) | exact Or.inr (Or.inr rfl)) (fe_int) (fe_bin op_modN ot_mod (fe_callTy call_int1 ct_intA (by rfl) b_int bt_int (fa_cons (fe_bin op_addT ot_add (fe_bin op_mulA ot_mulA (fe_ixA (i := 0) rfl (fe_int)) (fe_int)) (fe_int)) (fa_nil))) (fe_int)))
    (fs_one (fs_ret (fe_bin op_modN ot_mod (fe_callTy call_int1 ct_intA (by rfl) b_int bt_int (fa_cons (fe_bin op_divA ot_divA (fe_ixA (i := 0) rfl (fe_int)) (fe_int)) (fa_nil))) (fe_varA (i := 1)))))) (fs_nil))
    (fs_cons (fs_set SC.nd rfl (Or.inl rfl) (fx_t (fe_ix (fe_ixA (i := 0) rfl (fe_int)) (fe_bin op_subA ot_subA (fe_ixA (i := 0) rfl (fe_int)) (fe_int)))))
    (fs_cons (fs_setI (i := 0) rfl (by first | exact Or.inl rfl | exact Or.inr (Or.inl rfl) | exact Or.inr (Or.inr rfl)) (fe_int) (fe_bin op_modN ot_mod (fe_callTy call_int1 ct_intA (by rfl) b_int bt_int (fa_cons (fe_bin op_addT ot_add (fe_bin op_addT ot_add (fe_bin op_mulA ot_mulA (fe_ixA (i := 0) rfl (fe_int)) (fe_int)) (fe_varA (i := 2))) (fe_int)) (fa_nil))) (fe_int)))
    (fs_cons (fs_if (ft_cmp op_ge ot_ge (fe_varA (i := 2)) (fe_bin op_pow ot_pow (fe_int) (fe_int))) (fs_one (fs_setI (i := 0) rfl (by first | exact Or.inl rfl | exact Or.inr (Or.inl rfl) | exact Or.inr (Or.inr rfl)) (fe_int) (fe_bin op_divA ot_divA (fe_varA (i := 2)) (fe_varA (i := 1))))) (fs_nil))
    (fs_one (fs_ret (fe_bin op_modN ot_mod (fe_callTy call_int1 ct_intA (by rfl) b_int bt_int (fa_cons (fe_varA (i := 2)) (fa_nil))) (fe_varA (i := 1))))))))))
theorem sc__law_move : FnScope ["_law_many", "_law_third", "_law_fifth", "_law_told", "_law_move_here", "_law_step", "_law_root", "_law_upright"] ["_law_many", "_law_third", "_law_fifth", "_law_told", "_law_move_here"] (defScope (topS 23)) := ⟨rfl, rfl, rfl, by decide +kernel, rfl, by decide +kernel, by decide +kernel⟩
theorem k__law_move {P : Program} {w : World} {K : PySem.W.Frag} {mg : Str → Option Value} {base : Heap} (G : Top K mg) : Known P w K mg base 1 "_law_move" lw.F__law_move := by
  obtain ⟨f, fd, F, hm⟩ := G.f__law_move
  refine ⟨f, fd, ["_law_many", "_law_third", "_law_fifth", "_law_told", "_law_move_here"], hm, F.kp, F.binds (fun _ _ _ _ _ _ us hl => match us, hl with | [_, _, _, _, _], _ => rfl), fn_ok F sc__law_move fun cdv A outer s H E hr => ?_⟩
  have SC := sc__law_move
  exact fs_cons (fs_asg (fe_varA (i := 3)) (fg_tup rfl (fgs_cons (fg_name SC.nd rfl (Or.inl rfl)) (fgs_cons (fg_name SC.nd rfl (Or.inl rfl)) (fgs_nil))) rfl rfl (gs_len (gs_len gs_len0))))
    (fs_cons (fs_if (ft_cmp (op_eqT hr.units) ot_eq (fe_varA (i := 4)) (fe_str)) (fs_one (fs_ret (fe_tup (fa_cons (fe_varA (i := 6)) (fa_cons (fe_not (fe_varA (i := 7))) (fa_nil)))))) (fs_nil))
    (fs_cons (fs_set SC.nd rfl (Or.inl rfl) (fx_t (fe_if (ft_cmp (op_eqT hr.units) ot_eq (fe_varA (i := 4)) (fe_str)) (fe_varA (i := 1)) (fe_bin op_subA ot_subA (fe_varA (i := 1)) (fe_varA (i := 2))))))
    (fs_one (fs_ret (fe_if (ft_val (fe_varA (i := 7))) (fe_tup (fa_cons (fe_bin op_modN ot_mod (fe_bin op_addT ot_add (fe_varA (i := 6)) (fe_varA (i := 5))) (fe_varA (i := 0))) (fa_cons (fe_bl) (fa_nil)))) (fe_tup (fa_cons (fe_bin op_modN ot_mod (fe_bin op_subA ot_subA (fe_varA (i := 6)) (fe_varA (i := 5))) (fe_varA (i := 0))) (fa_cons (fe_bl) (fa_nil)))))))))
theorem sc_is_in : FnScope ["value", "least", "most"] ["value", "least", "most"] (defScope (topS 7)) := ⟨rfl, rfl, rfl, by decide +kernel, rfl, by decide +kernel, by decide +kernel⟩
theorem k_is_in {P : Program} {w : World} {K : PySem.W.Frag} {mg : Str → Option Value} {base : Heap} (G : Top K mg) : Known P w K mg base 2 "is_in" limits.F_is_in := by
  obtain ⟨f, fd, F, hm⟩ := G.f_is_in
  have k_is_int := (k_is_int (P := P) (w := w) (base := base) G).mono (show 1 ≤ 1 by decide)
  refine ⟨f, fd, ["value", "least", "most"], hm, F.kp, F.binds (fun _ _ _ _ _ _ us hl => match us, hl with | [_, _, _], _ => rfl), fn_ok F sc_is_in fun cdv A outer s H E hr => ?_⟩
  have SC := sc_is_in
  exact fs_one (fs_ret (fe_and (fe_call k_is_int hr (by rfl) (passes_call (takes_of rfl rfl rfl rfl) fun _ _ _ _ h => h) (fa_cons (fe_varA (i := 0)) (fa_nil))) (fe_one (fe_chain op_le ot_le op_le ot_le (fe_varA (i := 1)) (fe_varA (i := 0)) (fe_varA (i := 2))))))
theorem sc_walked : FnScope ["many", "third", "fifth", "told", "moves", "move"] ["many", "third", "fifth", "told", "moves"] (defScope (topS 16)) := ⟨rfl, rfl, rfl, by decide +kernel, rfl, by decide +kernel, by decide +kernel⟩
theorem k_walked {P : Program} {w : World} {K : PySem.W.Frag} {mg : Str → Option Value} {base : Heap} (G : Top K mg) : Known P w K mg base 2 "walked" triads.F_walked := by
  obtain ⟨f, fd, F, hm⟩ := G.f_walked
  have k_move_of := (k_move_of (P := P) (w := w) (base := base) G).mono (show 1 ≤ 1 by decide)
  refine ⟨f, fd, ["many", "third", "fifth", "told", "moves"], hm, F.kp, F.binds (fun _ _ _ _ _ _ us hl => match us, hl with | [_, _, _, _, _], _ => rfl), fn_ok F sc_walked fun cdv A outer s H E hr => ?_⟩
  have SC := sc_walked
  exact fs_cons (fs_for (passes_of rfl) rfl (fi_seqA (fe_varA (i := 4))) (fg_name SC.nd rfl (Or.inl rfl)) (fs_one (fs_set SC.nd rfl (Or.inl rfl) (fx_t (fe_call k_move_of hr (by rfl) (passes_call (takes_of rfl rfl rfl rfl) fun _ _ _ _ h => h) (fa_cons (fe_varA (i := 0)) (fa_cons (fe_varA (i := 1)) (fa_cons (fe_varA (i := 2)) (fa_cons (fe_varA (i := 3)) (fa_cons (fe_varA (i := 5)) (fa_nil)))))))))))
    (fs_one (fs_ret (fe_varA (i := 3))))
theorem sc__law_triads : FnScope ["_law_row", "_law_turn", "_law_many", "_law_third", "_law_fifth"] ["_law_row"] (defScope (topS 24)) := ⟨rfl, rfl, rfl, by decide +kernel, rfl, by decide +kernel, by decide +kernel⟩
theorem k__law_triads {P : Program} {w : World} {K : PySem.W.Frag} {mg : Str → Option Value} {base : Heap} (G : Top K mg) : KnownM P w K mg base 2 "_law_triads" lw.F__law_triads := by
  obtain ⟨f, fd, F, hm⟩ := G.f__law_triads
  have b_range := G.b_range
  have k__law_taken := (k__law_taken (P := P) (w := w) (base := base) G).mono (show 1 ≤ 1 by decide)
  refine ⟨f, fd, ["_law_row"], hm, F.kp, F.binds (fun _ _ _ _ _ _ us hl => match us, hl with | [_], _ => rfl), fm_ok F sc__law_triads fun cdv A outer s H E hr => ?_⟩
  have SC := sc__law_triads
  exact fs_cons (fs_for (passes_of rfl) rfl (fi_range1 (by rfl) b_range (fa_cons (fe_int) (fa_nil))) (fg_name SC.nd rfl (Or.inl rfl)) (fs_cons (fs_set SC.nd rfl (Or.inl rfl) (fx_t (fe_bin op_addT ot_add (fe_int) (fe_callM (i := 0) k__law_taken hr (by rfl) passL rfl (fa_cons (fe_int) (fa_nil))))))
    (fs_cons (fs_set SC.nd rfl (Or.inl rfl) (fx_t (fe_bin op_addT ot_add (fe_int) (fe_callM (i := 0) k__law_taken hr (by rfl) passL rfl (fa_cons (fe_bin op_subA ot_subA (fe_varA (i := 2)) (fe_int)) (fa_nil))))))
    (fs_cons (fs_set SC.nd rfl (Or.inl rfl) (fx_t (fe_bin op_addT ot_add (fe_bin op_addT ot_add (fe_varA (i := 3)) (fe_int)) (fe_callM (i := 0) k__law_taken hr (by rfl) passL rfl (fa_cons (fe_bin op_subA ot_subA (fe_bin op_subA ot_subA (fe_varA (i := 2)) (fe_int)) (fe_varA (i := 3))) (fa_nil))))))
    (fs_one (fs_if (ft_w (fw_and (ft_cmp (op_neT hr.units) ot_ne (fe_bin op_modN ot_mod (fe_bin op_mulA ot_mulA (fe_int) (fe_varA (i := 3))) (fe_varA (i := 2))) (fe_varA (i := 4))) (fw_and (ft_cmp (op_neT hr.units) ot_ne (fe_bin op_modN ot_mod (fe_bin op_mulA ot_mulA (fe_int) (fe_varA (i := 4))) (fe_varA (i := 2))) (fe_varA (i := 3))) (fw_and1 (ft_cmp (op_neT hr.units) ot_ne (fe_bin op_modN ot_mod (fe_bin op_addT ot_add (fe_varA (i := 3)) (fe_varA (i := 4))) (fe_varA (i := 2))) (fe_int)))))) (fs_one (fs_ret (fe_tup (fa_cons (fe_varA (i := 2)) (fa_cons (fe_varA (i := 3)) (fa_cons (fe_varA (i := 4)) (fa_nil))))))) (fs_nil)))))))
    (fs_one (fs_ret (fe_tup (fa_cons (fe_int) (fa_cons (fe_int) (fa_cons (fe_int) (fa_nil)))))))
theorem sc_need_shape : FnScope ["many", "third", "fifth"] ["many", "third", "fifth"] (defScope (topS 12)) := ⟨rfl, rfl, rfl, by decide +kernel, rfl, by decide +kernel, by decide +kernel⟩
theorem k_need_shape {P : Program} {w : World} {K : PySem.W.Frag} {mg : Str → Option Value} {base : Heap} (G : Top K mg) : Known P w K mg base 3 "need_shape" triads.F_need_shape := by
  obtain ⟨f, fd, F, hm⟩ := G.f_need_shape
  obtain ⟨t_MOST_STEPS, c_MOST_STEPS⟩ := G.c_MOST_STEPS
  have k_is_in := (k_is_in (P := P) (w := w) (base := base) G).mono (show 2 ≤ 2 by decide)
  refine ⟨f, fd, ["many", "third", "fifth"], hm, F.kp, F.binds (fun _ _ _ _ _ _ us hl => match us, hl with | [_, _, _], _ => rfl), fn_ok F sc_need_shape fun cdv A outer s H E hr => ?_⟩
  have SC := sc_need_shape
  exact fs_cons (fs_if (ft_w (fw_or (ft_not (ft_val (fe_call k_is_in hr (by rfl) (passes_call (takes_of rfl rfl rfl rfl) fun _ _ _ _ h => h) (fa_cons (fe_varA (i := 0)) (fa_cons (fe_int) (fa_cons (fe_gint (by rfl) c_MOST_STEPS) (fa_nil))))))) (fw_or (ft_not (ft_val (fe_call k_is_in hr (by rfl) (passes_call (takes_of rfl rfl rfl rfl) fun _ _ _ _ h => h) (fa_cons (fe_varA (i := 1)) (fa_cons (fe_int) (fa_cons (fe_bin op_subA ot_subA (fe_varA (i := 0)) (fe_int)) (fa_nil))))))) (fw_or1 (ft_not (ft_val (fe_call k_is_in hr (by rfl) (passes_call (takes_of rfl rfl rfl rfl) fun _ _ _ _ h => h) (fa_cons (fe_varA (i := 2)) (fa_cons (fe_bin op_addT ot_add (fe_varA (i := 1)) (fe_int)) (fa_cons (fe_bin op_subA ot_subA (fe_varA (i := 0)) (fe_int)) (fa_nil))))))))))) (fss_never) (fs_nil))
    (fs_one (fs_if (ft_w (fw_or (ft_cmp (op_eqT hr.units) ot_eq (fe_bin op_modN ot_mod (fe_bin op_mulA ot_mulA (fe_int) (fe_varA (i := 1))) (fe_varA (i := 0))) (fe_varA (i := 2))) (fw_or (ft_cmp (op_eqT hr.units) ot_eq (fe_bin op_modN ot_mod (fe_bin op_mulA ot_mulA (fe_int) (fe_varA (i := 2))) (fe_varA (i := 0))) (fe_varA (i := 1))) (fw_or1 (ft_cmp (op_eqT hr.units) ot_eq (fe_bin op_modN ot_mod (fe_bin op_addT ot_add (fe_varA (i := 1)) (fe_varA (i := 2))) (fe_varA (i := 0))) (fe_int)))))) (fss_never) (fs_nil)))
theorem sc_need_triad : FnScope ["many", "value"] ["many", "value"] (defScope (topS 13)) := ⟨rfl, rfl, rfl, by decide +kernel, rfl, by decide +kernel, by decide +kernel⟩
theorem k_need_triad {P : Program} {w : World} {K : PySem.W.Frag} {mg : Str → Option Value} {base : Heap} (G : Top K mg) : Known P w K mg base 3 "need_triad" triads.F_need_triad := by
  obtain ⟨f, fd, F, hm⟩ := G.f_need_triad
  have b_bool := G.b_bool
  have b_isinstance := G.b_isinstance
  have b_len := G.b_len
  have b_tuple := G.b_tuple
  have k_is_in := (k_is_in (P := P) (w := w) (base := base) G).mono (show 2 ≤ 2 by decide)
  refine ⟨f, fd, ["many", "value"], hm, F.kp, F.binds (fun _ _ _ _ _ _ us hl => match us, hl with | [_, _], _ => rfl), fn_ok F sc_need_triad fun cdv A outer s H E hr => ?_⟩
  have SC := sc_need_triad
  exact fs_cons (fs_if (ft_w (fw_or (ft_not (ft_val (fe_isi .tup (by rfl) b_isinstance bt_isinstance (by rfl) b_tuple bt_tuple (fe_varA (i := 1))))) (fw_or (ft_cmp (op_neT hr.units) ot_ne (fe_lenA (i := 1) (by rfl) b_len bt_len) (fe_int)) (fw_or1 (ft_not (ft_val (fe_call k_is_in hr (by rfl) (passes_call (takes_of rfl rfl rfl rfl) fun _ _ _ _ h => h) (fa_cons (fe_ixA (i := 1) rfl (fe_int)) (fa_cons (fe_int) (fa_cons (fe_bin op_subA ot_subA (fe_varA (i := 0)) (fe_int)) (fa_nil))))))))))) (fss_never) (fs_nil))
    (fs_one (fs_if (ft_not (ft_val (fe_isi .bl (by rfl) b_isinstance bt_isinstance (by rfl) b_bool bt_bool (fe_ixA (i := 1) rfl (fe_int))))) (fss_never) (fs_nil)))
theorem sc_walk : FnScope ["many", "third", "fifth", "told", "moves"] ["many", "third", "fifth", "told", "moves"] (defScope (topS 17)) := ⟨rfl, rfl, rfl, by decide +kernel, rfl, by decide +kernel, by decide +kernel⟩
theorem k_walk {P : Program} {w : World} {K : PySem.W.Frag} {mg : Str → Option Value} {base : Heap} (G : Top K mg) : Known P w K mg base 4 "walk" triads.F_walk := by
  obtain ⟨f, fd, F, hm⟩ := G.f_walk
  have k_need_moves := (k_need_moves (P := P) (w := w) (base := base) G).mono (show 1 ≤ 3 by decide)
  have k_need_shape := (k_need_shape (P := P) (w := w) (base := base) G).mono (show 3 ≤ 3 by decide)
  have k_need_triad := (k_need_triad (P := P) (w := w) (base := base) G).mono (show 3 ≤ 3 by decide)
  have k_walked := (k_walked (P := P) (w := w) (base := base) G).mono (show 2 ≤ 3 by decide)
  refine ⟨f, fd, ["many", "third", "fifth", "told", "moves"], hm, F.kp, F.binds (fun _ _ _ _ _ _ us hl => match us, hl with | [_, _, _, _, _], _ => rfl), fn_ok F sc_walk fun cdv A outer s H E hr => ?_⟩
  have SC := sc_walk
  exact fs_cons (fs_expr (fe_call k_need_shape hr (by rfl) (passes_call (takes_of rfl rfl rfl rfl) fun _ _ _ _ h => h) (fa_cons (fe_varA (i := 0)) (fa_cons (fe_varA (i := 1)) (fa_cons (fe_varA (i := 2)) (fa_nil))))))
    (fs_cons (fs_expr (fe_call k_need_triad hr (by rfl) (passes_call (takes_of rfl rfl rfl rfl) fun _ _ _ _ h => h) (fa_cons (fe_varA (i := 0)) (fa_cons (fe_varA (i := 3)) (fa_nil)))))
    (fs_cons (fs_expr (fe_call k_need_moves hr (by rfl) (passes_call (takes_of rfl rfl rfl rfl) fun _ _ _ _ h => h) (fa_cons (fe_varA (i := 4)) (fa_nil))))
    (fs_one (fs_ret (fe_call k_walked hr (by rfl) (passes_call (takes_of rfl rfl rfl rfl) fun _ _ _ _ h => h) (fa_cons (fe_varA (i := 0)) (fa_cons (fe_varA (i := 1)) (fa_cons (fe_varA (i := 2)) (fa_cons (fe_varA (i := 3)) (fa_cons (fe_varA (i := 4)) (fa_nil)))))))))))
theorem sc_least_moves : FnScope ["many", "third", "fifth", "one", "other", "known", "rim", "later", "told", "move", "more"] ["many", "third", "fifth", "one", "other"] (defScope (topS 18)) := ⟨rfl, rfl, rfl, by decide +kernel, rfl, by decide +kernel, by decide +kernel⟩
theorem k_least_moves {P : Program} {w : World} {K : PySem.W.Frag} {mg : Str → Option Value} {base : Heap} (G : Top K mg) : Known P w K mg base 4 "least_moves" triads.F_least_moves := by
  obtain ⟨f, fd, F, hm⟩ := G.f_least_moves
  have k_move_of := (k_move_of (P := P) (w := w) (base := base) G).mono (show 1 ≤ 3 by decide)
  have k_need_shape := (k_need_shape (P := P) (w := w) (base := base) G).mono (show 3 ≤ 3 by decide)
  have k_need_triad := (k_need_triad (P := P) (w := w) (base := base) G).mono (show 3 ≤ 3 by decide)
  refine ⟨f, fd, ["many", "third", "fifth", "one", "other"], hm, F.kp, F.binds (fun _ _ _ _ _ _ us hl => match us, hl with | [_, _, _, _, _], _ => rfl), fn_ok F sc_least_moves fun cdv A outer s H E hr => ?_⟩
  have SC := sc_least_moves
  exact fs_cons (fs_expr (fe_call k_need_shape hr (by rfl) (passes_call (takes_of rfl rfl rfl rfl) fun _ _ _ _ h => h) (fa_cons (fe_varA (i := 0)) (fa_cons (fe_varA (i := 1)) (fa_cons (fe_varA (i := 2)) (fa_nil))))))
    (fs_cons (fs_expr (fe_call k_need_triad hr (by rfl) (passes_call (takes_of rfl rfl rfl rfl) fun _ _ _ _ h => h) (fa_cons (fe_varA (i := 0)) (fa_cons (fe_varA (i := 3)) (fa_nil)))))
    (fs_cons (fs_expr (fe_call k_need_triad hr (by rfl) (passes_call (takes_of rfl rfl rfl rfl) fun _ _ _ _ h => h) (fa_cons (fe_varA (i := 0)) (fa_cons (fe_varA (i := 4)) (fa_nil)))))
    (fs_cons (fs_par rfl SC.nd (i := 5) (j := 6) rfl rfl (by decide) rfl rfl (fxs_cons (fx_o (fo_disp1B (units9 hr) (fe_varA (i := 3)) (fe_str))) (fxs_cons (fx_t (fe_new (fo_lst (fa_cons (fe_varA (i := 3)) (fa_nil))))) (fxs_nil))) rfl)
    (fs_cons (fs_while 1000000 (passes_of rfl) (ft_w (fw_and (ft_dnin (i := 5) (units9 hr) (fe_varA (i := 4))) (fw_and1 (ft_cmp (op_neT hr.units) ot_ne (fe_varA (i := 6)) (fe_new (fo_lst (fa_nil))))))) (fs_cons (fs_set SC.nd rfl (Or.inl rfl) (fx_o (fo_lst (fa_nil))))
    (fs_cons (fs_for (passes_of rfl) rfl (fi_seqA (fe_varA (i := 6))) (fg_name SC.nd rfl (Or.inl rfl)) (fs_one (fs_for (passes_of rfl) rfl (fi_seqA (fe_str)) (fg_name SC.nd rfl (Or.inl rfl)) (fs_cons (fs_set SC.nd rfl (Or.inl rfl) (fx_t (fe_call k_move_of hr (by rfl) (passes_call (takes_of rfl rfl rfl rfl) fun _ _ _ _ h => h) (fa_cons (fe_varA (i := 0)) (fa_cons (fe_varA (i := 1)) (fa_cons (fe_varA (i := 2)) (fa_cons (fe_varA (i := 8)) (fa_cons (fe_varA (i := 9)) (fa_nil)))))))))
    (fs_one (fs_if (ft_dnin (i := 5) (units9 hr) (fe_varA (i := 10))) (fs_cons (fs_setD (i := 5) (units9 hr) rfl (by first | exact Or.inl rfl | exact Or.inr (Or.inl rfl) | exact Or.inr (Or.inr rfl)) (fe_varA (i := 10)) (fe_bin op_addT ot_add (fe_dgA (i := 5) (units9 hr) rfl (fe_varA (i := 8))) (fe_varA (i := 9))))
    (fs_one (fs_expr (fe_append (i := 7) rfl (fe_varA (i := 10)))))) (fs_nil)))))))
    (fs_one (fs_set SC.nd rfl (Or.inl rfl) (fx_t (fe_varA (i := 7))))))))
    (fs_one (fs_ret (fe_dg1A (i := 5) (units9 hr) rfl (fe_varA (i := 4)))))))))
theorem sc_reached : FnScope ["many", "third", "fifth", "step"] ["many", "third", "fifth"] (defScope (topS 19)) := ⟨rfl, rfl, rfl, by decide +kernel, rfl, by decide +kernel, by decide +kernel⟩
theorem k_reached {P : Program} {w : World} {K : PySem.W.Frag} {mg : Str → Option Value} {base : Heap} (G : Top K mg) : Known P w K mg base 4 "reached" triads.F_reached := by
  obtain ⟨f, fd, F, hm⟩ := G.f_reached
  have k_common := (k_common (P := P) (w := w) (base := base) G).mono (show 1 ≤ 3 by decide)
  have k_need_shape := (k_need_shape (P := P) (w := w) (base := base) G).mono (show 3 ≤ 3 by decide)
  refine ⟨f, fd, ["many", "third", "fifth"], hm, F.kp, F.binds (fun _ _ _ _ _ _ us hl => match us, hl with | [_, _, _], _ => rfl), fn_ok F sc_reached fun cdv A outer s H E hr => ?_⟩
  have SC := sc_reached
  exact fs_cons (fs_expr (fe_call k_need_shape hr (by rfl) (passes_call (takes_of rfl rfl rfl rfl) fun _ _ _ _ h => h) (fa_cons (fe_varA (i := 0)) (fa_cons (fe_varA (i := 1)) (fa_cons (fe_varA (i := 2)) (fa_nil))))))
    (fs_cons (fs_set SC.nd rfl (Or.inl rfl) (fx_t (fe_call k_common hr (by rfl) (passes_call (takes_of rfl rfl rfl rfl) fun _ _ _ _ h => h) (fa_cons (fe_call k_common hr (by rfl) (passes_call (takes_of rfl rfl rfl rfl) fun _ _ _ _ h => h) (fa_cons (fe_varA (i := 1)) (fa_cons (fe_varA (i := 2)) (fa_nil)))) (fa_cons (fe_varA (i := 0)) (fa_nil))))))
    (fs_one (fs_ret (fe_bin op_mulA ot_mulA (fe_int) (fe_bin op_divA ot_divA (fe_varA (i := 0)) (fe_varA (i := 3)))))))
theorem sc__law_alike : FnScope ["_law_found", "_law_due", "_law_k"] ["_law_found", "_law_due"] (defScope (topS 22)) := ⟨rfl, rfl, rfl, by decide +kernel, rfl, by decide +kernel, by decide +kernel⟩
theorem kk__law_alike {P : Program} {w : World} {K : PySem.W.Frag} {mg : Str → Option Value} {base : Heap} (G : Top K mg) : ∀ n : Nat, Known P w K mg base (1 + n) "_law_alike" (lw.F__law_alike n) := by
  obtain ⟨f, fd, F, hm⟩ := G.f__law_alike
  have b_bool := G.b_bool
  have b_int := G.b_int
  have b_isinstance := G.b_isinstance
  have b_len := G.b_len
  have b_list := G.b_list
  have b_range := G.b_range
  have b_str := G.b_str
  have b_tuple := G.b_tuple
  intro n
  induction n with
  | zero => exact ⟨f, fd, ["_law_found", "_law_due"], hm, F.kp, F.binds (fun _ _ _ _ _ _ us hl => match us, hl with | [_, _], _ => rfl), ⟨fun vs H Q E h => (bad_sp h).elim, fun A outer s H args us vs Q E _ _ _ _ h => (bad_sp h).elim⟩⟩
  | succ n ih =>
  have k__law_alike := ih
  refine ⟨f, fd, ["_law_found", "_law_due"], hm, F.kp, F.binds (fun _ _ _ _ _ _ us hl => match us, hl with | [_, _], _ => rfl), fn_ok F sc__law_alike fun cdv A outer s H E hr => ?_⟩
  have SC := sc__law_alike
  exact fs_cons (fs_if (ft_val (fe_isi2 .tup .lst (by rfl) b_isinstance bt_isinstance (by rfl) b_tuple bt_tuple (by rfl) b_list bt_list (fe_varA (i := 1)))) (fs_cons (fs_if (ft_w (fw_or (ft_not (ft_val (fe_isi2 .tup .lst (by rfl) b_isinstance bt_isinstance (by rfl) b_tuple bt_tuple (by rfl) b_list bt_list (fe_varA (i := 0))))) (fw_or1 (ft_cmp (op_neT hr.units) ot_ne (fe_isi .lst (by rfl) b_isinstance bt_isinstance (by rfl) b_list bt_list (fe_varA (i := 0))) (fe_isi .lst (by rfl) b_isinstance bt_isinstance (by rfl) b_list bt_list (fe_varA (i := 1))))))) (fs_one (fs_ret (fe_bl))) (fs_nil))
    (fs_cons (fs_if (ft_cmp (op_neT hr.units) ot_ne (fe_lenA (i := 0) (by rfl) b_len bt_len) (fe_lenA (i := 1) (by rfl) b_len bt_len)) (fs_one (fs_ret (fe_bl))) (fs_nil))
    (fs_one (fs_ret (fe_cmp (op_eqT hr.units) ot_eq (fe_new (fo_lc (own := [("_law_k", 2)]) rfl SC.nd (fi_range1 (by rfl) b_range (fa_cons (fe_lenA (i := 1) (by rfl) b_len bt_len) (fa_nil))) (blkOk_by (by kernel_rfl)) (fun _ _ _ _ _ => fg_name SC.nd rfl (Or.inl rfl)) (by decide) (fun _ _ _ _ _ => fts_one (ft_not (ft_val (fe_call k__law_alike hr (by rfl) passL (fa_cons (fe_ixA (i := 0) rfl (fe_varA (i := 2))) (fa_cons (fe_ixA (i := 1) rfl (fe_varA (i := 2))) (fa_nil))))))) (fun _ _ _ _ _ => fe_varA (i := 2)))) (fe_new (fo_lst (fa_nil)))))))) (fs_nil))
    (fs_cons (fs_if (ft_w (fw_or (ft_cmp op_isT ot_is (fe_varA (i := 1)) (fe_non)) (fw_or1 (ft_val (fe_isi .str (by rfl) b_isinstance bt_isinstance (by rfl) b_str bt_str (fe_varA (i := 1))))))) (fs_one (fs_ret (fe_and (fe_cmp (op_eqT hr.units) ot_eq (fe_varA (i := 0)) (fe_varA (i := 1))) (fe_one (fe_cmp (op_eqT hr.units) ot_eq (fe_isi .str (by rfl) b_isinstance bt_isinstance (by rfl) b_str bt_str (fe_varA (i := 0))) (fe_isi .str (by rfl) b_isinstance bt_isinstance (by rfl) b_str bt_str (fe_varA (i := 1)))))))) (fs_nil))
    (fs_one (fs_ret (fe_and (fe_isi .int (by rfl) b_isinstance bt_isinstance (by rfl) b_int bt_int (fe_varA (i := 0))) (fe_and (fe_cmp (op_eqT hr.units) ot_eq (fe_isi .bl (by rfl) b_isinstance bt_isinstance (by rfl) b_bool bt_bool (fe_varA (i := 0))) (fe_isi .bl (by rfl) b_isinstance bt_isinstance (by rfl) b_bool bt_bool (fe_varA (i := 1)))) (fe_one (fe_cmp (op_eqT hr.units) ot_eq (fe_varA (i := 0)) (fe_varA (i := 1)))))))))
theorem k__law_alike {P : Program} {w : World} {K : PySem.W.Frag} {mg : Str → Option Value} {base : Heap} (G : Top K mg) : Known P w K mg base 9 "_law_alike" (lw.F__law_alike 8) := kk__law_alike G 8
theorem sc_law : FnScope ["_law_script", "_law_row", "_law_found", "_law_many", "_law_third", "_law_fifth", "_law_one", "_law_other", "_law_known", "_law_rim", "_law_later", "_law_told", "_law_move_here", "_law_more"] ["_law_script"] (defScope (topS 25)) := ⟨rfl, rfl, rfl, by decide +kernel, rfl, by decide +kernel, by decide +kernel⟩
theorem k_law_at {P : Program} {w : World} {K : PySem.W.Frag} {mg : Str → Option Value} {base : Heap} (G : Top K mg) {f c0 P0 : Addr} {fd : FuncData} (F : Fun K "law" "law" (topS 25) f fd) (hc : fd.code = .ref c0) (TB : LamX.TabB base mg c0 P0) (LT : LawTab K mg P0) : FnOk P w K mg base (L2.CX P w) 10 f fd ["_law_script"] (spF K mg lw.F_law) := by
  have b_len := G.b_len
  have k__law_alike := (k__law_alike (P := P) (w := w) (base := base) G).mono (show 9 ≤ 9 by decide)
  have k__law_move := (k__law_move (P := P) (w := w) (base := base) G).mono (show 1 ≤ 9 by decide)
  have k__law_taken := (k__law_taken (P := P) (w := w) (base := base) G).mono (show 1 ≤ 9 by decide)
  have k__law_triads := (k__law_triads (P := P) (w := w) (base := base) G).mono (show 2 ≤ 9 by decide)
  have k_least_moves := (k_least_moves (P := P) (w := w) (base := base) G).mono (show 4 ≤ 9 by decide)
  have k_reached := (k_reached (P := P) (w := w) (base := base) G).mono (show 4 ≤ 9 by decide)
  have k_walk := (k_walk (P := P) (w := w) (base := base) G).mono (show 4 ≤ 9 by decide)
  refine law_ok F hc sc_law fun A outer s H E hr => ?_
  have SC := sc_law
  exact fs_cons (fs_set SC.nd rfl (Or.inl rfl) (fx_o (fo_lst (fa_cons (fe_varA (i := 0)) (fa_cons (fe_int) (fa_cons (fe_int) (fa_cons (fe_int) (fa_nil))))))))
    (fs_cons (fs_asg (fe_callM (i := 1) k__law_triads hr (by rfl) passL rfl (fa_nil)) (fg_tup rfl (fgs_cons (fg_name SC.nd rfl (Or.inl rfl)) (fgs_cons (fg_name SC.nd rfl (Or.inl rfl)) (fgs_cons (fg_name SC.nd rfl (Or.inl rfl)) (fgs_nil)))) rfl rfl (gs_len (gs_len (gs_len gs_len0)))))
    (fs_cons (fs_par rfl SC.nd (i := 6) (j := 7) rfl rfl (by decide) rfl rfl (fxs_cons (fx_t (fe_tup (fa_cons (fe_callM (i := 1) k__law_taken hr (by rfl) passL rfl (fa_cons (fe_varA (i := 3)) (fa_nil))) (fa_cons (fe_cmp (op_eqT hr.units) ot_eq (fe_callM (i := 1) k__law_taken hr (by rfl) passL rfl (fa_cons (fe_int) (fa_nil))) (fe_int)) (fa_nil))))) (fxs_cons (fx_t (fe_tup (fa_cons (fe_callM (i := 1) k__law_taken hr (by rfl) passL rfl (fa_cons (fe_varA (i := 3)) (fa_nil))) (fa_cons (fe_cmp (op_eqT hr.units) ot_eq (fe_callM (i := 1) k__law_taken hr (by rfl) passL rfl (fa_cons (fe_int) (fa_nil))) (fe_int)) (fa_nil))))) (fxs_nil))) rfl)
    (fs_cons (fs_par rfl SC.nd (i := 8) (j := 9) rfl rfl (by decide) rfl rfl (fxs_cons (fx_o (fo_disp1B (units9 hr) (fe_varA (i := 6)) (fe_str))) (fxs_cons (fx_t (fe_new (fo_lst (fa_cons (fe_varA (i := 6)) (fa_nil))))) (fxs_nil))) rfl)
    (fs_cons (fs_while 1000000 (passes_of rfl) (ft_cmp (op_neT hr.units) ot_ne (fe_varA (i := 9)) (fe_new (fo_lst (fa_nil)))) (fs_cons (fs_set SC.nd rfl (Or.inl rfl) (fx_o (fo_lst (fa_nil))))
    (fs_cons (fs_for (passes_of rfl) rfl (fi_seqA (fe_varA (i := 9))) (fg_name SC.nd rfl (Or.inl rfl)) (fs_one (fs_for (passes_of rfl) rfl (fi_seqA (fe_new (fo_lst (fa_cons (fe_str) (fa_cons (fe_str) (fa_cons (fe_str) (fa_nil))))))) (fg_name SC.nd rfl (Or.inl rfl)) (fs_cons (fs_set SC.nd rfl (Or.inl rfl) (fx_t (fe_call k__law_move hr (by rfl) (passes_call (takes_of rfl rfl rfl rfl) fun _ _ _ _ h => h) (fa_cons (fe_varA (i := 3)) (fa_cons (fe_varA (i := 4)) (fa_cons (fe_varA (i := 5)) (fa_cons (fe_varA (i := 11)) (fa_cons (fe_varA (i := 12)) (fa_nil)))))))))
    (fs_one (fs_if (ft_dnin (i := 8) (units9 hr) (fe_varA (i := 13))) (fs_cons (fs_setD (i := 8) (units9 hr) rfl (by first | exact Or.inl rfl | exact Or.inr (Or.inl rfl) | exact Or.inr (Or.inr rfl)) (fe_varA (i := 13)) (fe_bin op_addT ot_add (fe_dgA (i := 8) (units9 hr) rfl (fe_varA (i := 11))) (fe_varA (i := 12))))
    (fs_one (fs_expr (fe_append (i := 10) rfl (fe_varA (i := 13)))))) (fs_nil)))))))
    (fs_one (fs_set SC.nd rfl (Or.inl rfl) (fx_t (fe_varA (i := 10))))))))
    (fs_cons (fs_set SC.nd rfl (Or.inl rfl) (fx_t (fe_call k_least_moves hr (by rfl) (passes_call (takes_of rfl rfl rfl rfl) fun _ _ _ _ h => h) (fa_cons (fe_varA (i := 3)) (fa_cons (fe_varA (i := 4)) (fa_cons (fe_varA (i := 5)) (fa_cons (fe_varA (i := 6)) (fa_cons (fe_varA (i := 7)) (fa_nil)))))))))
    (fs_cons (fs_if (ft_w (fw_or (ft_not (ft_val (fe_call k__law_alike hr (by rfl) (passes_call (takes_of rfl rfl rfl rfl) fun _ _ _ _ h => h) (fa_cons (fe_varA (i := 2)) (fa_cons (fe_dg2A (i := 8) (units9 hr) rfl (fe_varA (i := 7)) (fe_non)) (fa_nil)))))) (fw_or1 (ft_not (ft_val (fe_call k__law_alike hr (by rfl) (passes_call (takes_of rfl rfl rfl rfl) fun _ _ _ _ h => h) (fa_cons (fe_call k_reached hr (by rfl) (passes_call (takes_of rfl rfl rfl rfl) fun _ _ _ _ h => h) (fa_cons (fe_varA (i := 3)) (fa_cons (fe_varA (i := 4)) (fa_cons (fe_varA (i := 5)) (fa_nil))))) (fa_cons (fe_lenDB (i := 8) (by rfl) b_len bt_len) (fa_nil))))))))) (fs_one (fs_ret (fe_bl))) (fs_nil))
    (fs_cons (fs_if (ft_cmp op_notT ot_not (fe_varA (i := 2)) (fe_non)) (fs_cons (fs_if (ft_cmp (op_neT hr.units) ot_ne (fe_call k_walk hr (by rfl) (passes_call (takes_of rfl rfl rfl rfl) fun _ _ _ _ h => h) (fa_cons (fe_varA (i := 3)) (fa_cons (fe_varA (i := 4)) (fa_cons (fe_varA (i := 5)) (fa_cons (fe_varA (i := 6)) (fa_cons (fe_varA (i := 2)) (fa_nil))))))) (fe_varA (i := 7))) (fs_one (fs_ret (fe_bl))) (fs_nil))
    (fs_one (fs_for (passes_of rfl) rfl (fi_ksB (i := 8)) (fg_name SC.nd rfl (Or.inl rfl)) (fs_one (fs_for (passes_of rfl) rfl (fi_seqA (fe_new (fo_lst (fa_cons (fe_str) (fa_cons (fe_str) (fa_cons (fe_str) (fa_nil))))))) (fg_name SC.nd rfl (Or.inl rfl)) (fs_one (fs_if (ft_w (fw_and (ft_cmp (op_eqT hr.units) ot_eq (fe_callB call_len ct_len (by rfl) b_len bt_len (fa_cons (fe_dgA (i := 8) (units9 hr) rfl (fe_varA (i := 11))) (fa_nil))) (fe_bin op_subA ot_subA (fe_lenA (i := 2) (by rfl) b_len bt_len) (fe_int))) (fw_and (ft_cmp (op_eqT hr.units) ot_eq (fe_call k__law_move hr (by rfl) (passes_call (takes_of rfl rfl rfl rfl) fun _ _ _ _ h => h) (fa_cons (fe_varA (i := 3)) (fa_cons (fe_varA (i := 4)) (fa_cons (fe_varA (i := 5)) (fa_cons (fe_varA (i := 11)) (fa_cons (fe_varA (i := 12)) (fa_nil))))))) (fe_varA (i := 7))) (fw_and1 (ft_cmp (op_ltDO (units65 hr)) ot_ltDO (fe_bin op_addT ot_add (fe_dgA (i := 8) (units9 hr) rfl (fe_varA (i := 11))) (fe_varA (i := 12))) (fe_varA (i := 2))))))) (fs_one (fs_ret (fe_bl))) (fs_nil)))))))) (fs_nil))
    (fs_one (fs_ret (fe_bl))))))))))
end Law

namespace Law
open PySem PySem.Spec L2 FL TW
theorem all_mk {l : PySem.W.OpenLaw} {w : World} {K : PySem.W.Frag} {h : Heap} {mg : Str → Option Value} {fa : Addr} (X : K.In h) (G : h.Ns mainGlobals mg) (hfa : mg "law" = some (.ref fa))
    (z_abs : PySem.W.nsIn K mainGlobals "abs" = some none)
    (z_all : PySem.W.nsIn K mainGlobals "all" = some none)
    (z_bool : PySem.W.nsIn K mainGlobals "bool" = some none)
    (z_int : PySem.W.nsIn K mainGlobals "int" = some none)
    (z_isinstance : PySem.W.nsIn K mainGlobals "isinstance" = some none)
    (z_len : PySem.W.nsIn K mainGlobals "len" = some none)
    (z_list : PySem.W.nsIn K mainGlobals "list" = some none)
    (z_range : PySem.W.nsIn K mainGlobals "range" = some none)
    (z_str : PySem.W.nsIn K mainGlobals "str" = some none)
    (z_tuple : PySem.W.nsIn K mainGlobals "tuple" = some none)
    {t_MOST_STEPS : Tok} (z_MOST_STEPS : PySem.W.nsIn K mainGlobals "MOST_STEPS" = some (some (.int (60) t_MOST_STEPS)))
    {t_MOST_MOVES : Tok} (z_MOST_MOVES : PySem.W.nsIn K mainGlobals "MOST_MOVES" = some (some (.int (200) t_MOST_MOVES)))
    {f0 : Addr} {od0 an0 : Option Addr} {sl0 : Array (Option Value)} {oc0 kV0 dc0 pm0 ct0 : Value} {cd0 : Value}
    (a0 : PySem.W.nsIn K mainGlobals "is_int" = some (some (.ref f0))) (l0 : K.lookup f0 = some ⟨oc0, od0, .func (PySem.W.fnOf "is_int" "is_int" (defArgs (topS 6)) (defBody (topS 6)) (defScope (topS 6)) .none kV0 dc0 pm0 an0 cd0 ct0), sl0⟩) (c0 : PySem.W.codeIn K cd0 "is_int" = true) (k0 : PySem.W.keepIn K (.ref f0) = true)
    {f1 : Addr} {od1 an1 : Option Addr} {sl1 : Array (Option Value)} {oc1 kV1 dc1 pm1 ct1 : Value} {cd1 : Value}
    (a1 : PySem.W.nsIn K mainGlobals "common" = some (some (.ref f1))) (l1 : K.lookup f1 = some ⟨oc1, od1, .func (PySem.W.fnOf "common" "common" (defArgs (topS 8)) (defBody (topS 8)) (defScope (topS 8)) .none kV1 dc1 pm1 an1 cd1 ct1), sl1⟩) (c1 : PySem.W.codeIn K cd1 "common" = true) (k1 : PySem.W.keepIn K (.ref f1) = true)
    {f2 : Addr} {od2 an2 : Option Addr} {sl2 : Array (Option Value)} {oc2 kV2 dc2 pm2 ct2 : Value} {cd2 : Value}
    (a2 : PySem.W.nsIn K mainGlobals "move_of" = some (some (.ref f2))) (l2 : K.lookup f2 = some ⟨oc2, od2, .func (PySem.W.fnOf "move_of" "move_of" (defArgs (topS 14)) (defBody (topS 14)) (defScope (topS 14)) .none kV2 dc2 pm2 an2 cd2 ct2), sl2⟩) (c2 : PySem.W.codeIn K cd2 "move_of" = true) (k2 : PySem.W.keepIn K (.ref f2) = true)
    {f3 : Addr} {od3 an3 : Option Addr} {sl3 : Array (Option Value)} {oc3 kV3 dc3 pm3 ct3 : Value} {cd3 : Value}
    (a3 : PySem.W.nsIn K mainGlobals "need_moves" = some (some (.ref f3))) (l3 : K.lookup f3 = some ⟨oc3, od3, .func (PySem.W.fnOf "need_moves" "need_moves" (defArgs (topS 15)) (defBody (topS 15)) (defScope (topS 15)) .none kV3 dc3 pm3 an3 cd3 ct3), sl3⟩) (c3 : PySem.W.codeIn K cd3 "need_moves" = true) (k3 : PySem.W.keepIn K (.ref f3) = true)
    {f4 : Addr} {od4 an4 : Option Addr} {sl4 : Array (Option Value)} {oc4 kV4 dc4 pm4 ct4 : Value} {cd4 : Value}
    (a4 : PySem.W.nsIn K mainGlobals "_law_taken" = some (some (.ref f4))) (l4 : K.lookup f4 = some ⟨oc4, od4, .func (PySem.W.fnOf "_law_taken" "_law_taken" (defArgs (topS 21)) (defBody (topS 21)) (defScope (topS 21)) .none kV4 dc4 pm4 an4 cd4 ct4), sl4⟩) (c4 : PySem.W.codeIn K cd4 "_law_taken" = true) (k4 : PySem.W.keepIn K (.ref f4) = true)
    {f5 : Addr} {od5 an5 : Option Addr} {sl5 : Array (Option Value)} {oc5 kV5 dc5 pm5 ct5 : Value} {cd5 : Value}
    (a5 : PySem.W.nsIn K mainGlobals "_law_move" = some (some (.ref f5))) (l5 : K.lookup f5 = some ⟨oc5, od5, .func (PySem.W.fnOf "_law_move" "_law_move" (defArgs (topS 23)) (defBody (topS 23)) (defScope (topS 23)) .none kV5 dc5 pm5 an5 cd5 ct5), sl5⟩) (c5 : PySem.W.codeIn K cd5 "_law_move" = true) (k5 : PySem.W.keepIn K (.ref f5) = true)
    {f6 : Addr} {od6 an6 : Option Addr} {sl6 : Array (Option Value)} {oc6 kV6 dc6 pm6 ct6 : Value} {cd6 : Value}
    (a6 : PySem.W.nsIn K mainGlobals "is_in" = some (some (.ref f6))) (l6 : K.lookup f6 = some ⟨oc6, od6, .func (PySem.W.fnOf "is_in" "is_in" (defArgs (topS 7)) (defBody (topS 7)) (defScope (topS 7)) .none kV6 dc6 pm6 an6 cd6 ct6), sl6⟩) (c6 : PySem.W.codeIn K cd6 "is_in" = true) (k6 : PySem.W.keepIn K (.ref f6) = true)
    {f7 : Addr} {od7 an7 : Option Addr} {sl7 : Array (Option Value)} {oc7 kV7 dc7 pm7 ct7 : Value} {cd7 : Value}
    (a7 : PySem.W.nsIn K mainGlobals "walked" = some (some (.ref f7))) (l7 : K.lookup f7 = some ⟨oc7, od7, .func (PySem.W.fnOf "walked" "walked" (defArgs (topS 16)) (defBody (topS 16)) (defScope (topS 16)) .none kV7 dc7 pm7 an7 cd7 ct7), sl7⟩) (c7 : PySem.W.codeIn K cd7 "walked" = true) (k7 : PySem.W.keepIn K (.ref f7) = true)
    {f8 : Addr} {od8 an8 : Option Addr} {sl8 : Array (Option Value)} {oc8 kV8 dc8 pm8 ct8 : Value} {cd8 : Value}
    (a8 : PySem.W.nsIn K mainGlobals "_law_triads" = some (some (.ref f8))) (l8 : K.lookup f8 = some ⟨oc8, od8, .func (PySem.W.fnOf "_law_triads" "_law_triads" (defArgs (topS 24)) (defBody (topS 24)) (defScope (topS 24)) .none kV8 dc8 pm8 an8 cd8 ct8), sl8⟩) (c8 : PySem.W.codeIn K cd8 "_law_triads" = true) (k8 : PySem.W.keepIn K (.ref f8) = true)
    {f9 : Addr} {od9 an9 : Option Addr} {sl9 : Array (Option Value)} {oc9 kV9 dc9 pm9 ct9 : Value} {cd9 : Value}
    (a9 : PySem.W.nsIn K mainGlobals "need_shape" = some (some (.ref f9))) (l9 : K.lookup f9 = some ⟨oc9, od9, .func (PySem.W.fnOf "need_shape" "need_shape" (defArgs (topS 12)) (defBody (topS 12)) (defScope (topS 12)) .none kV9 dc9 pm9 an9 cd9 ct9), sl9⟩) (c9 : PySem.W.codeIn K cd9 "need_shape" = true) (k9 : PySem.W.keepIn K (.ref f9) = true)
    {f10 : Addr} {od10 an10 : Option Addr} {sl10 : Array (Option Value)} {oc10 kV10 dc10 pm10 ct10 : Value} {cd10 : Value}
    (a10 : PySem.W.nsIn K mainGlobals "need_triad" = some (some (.ref f10))) (l10 : K.lookup f10 = some ⟨oc10, od10, .func (PySem.W.fnOf "need_triad" "need_triad" (defArgs (topS 13)) (defBody (topS 13)) (defScope (topS 13)) .none kV10 dc10 pm10 an10 cd10 ct10), sl10⟩) (c10 : PySem.W.codeIn K cd10 "need_triad" = true) (k10 : PySem.W.keepIn K (.ref f10) = true)
    {f11 : Addr} {od11 an11 : Option Addr} {sl11 : Array (Option Value)} {oc11 kV11 dc11 pm11 ct11 : Value} {cd11 : Value}
    (a11 : PySem.W.nsIn K mainGlobals "walk" = some (some (.ref f11))) (l11 : K.lookup f11 = some ⟨oc11, od11, .func (PySem.W.fnOf "walk" "walk" (defArgs (topS 17)) (defBody (topS 17)) (defScope (topS 17)) .none kV11 dc11 pm11 an11 cd11 ct11), sl11⟩) (c11 : PySem.W.codeIn K cd11 "walk" = true) (k11 : PySem.W.keepIn K (.ref f11) = true)
    {f12 : Addr} {od12 an12 : Option Addr} {sl12 : Array (Option Value)} {oc12 kV12 dc12 pm12 ct12 : Value} {cd12 : Value}
    (a12 : PySem.W.nsIn K mainGlobals "least_moves" = some (some (.ref f12))) (l12 : K.lookup f12 = some ⟨oc12, od12, .func (PySem.W.fnOf "least_moves" "least_moves" (defArgs (topS 18)) (defBody (topS 18)) (defScope (topS 18)) .none kV12 dc12 pm12 an12 cd12 ct12), sl12⟩) (c12 : PySem.W.codeIn K cd12 "least_moves" = true) (k12 : PySem.W.keepIn K (.ref f12) = true)
    {f13 : Addr} {od13 an13 : Option Addr} {sl13 : Array (Option Value)} {oc13 kV13 dc13 pm13 ct13 : Value} {cd13 : Value}
    (a13 : PySem.W.nsIn K mainGlobals "reached" = some (some (.ref f13))) (l13 : K.lookup f13 = some ⟨oc13, od13, .func (PySem.W.fnOf "reached" "reached" (defArgs (topS 19)) (defBody (topS 19)) (defScope (topS 19)) .none kV13 dc13 pm13 an13 cd13 ct13), sl13⟩) (c13 : PySem.W.codeIn K cd13 "reached" = true) (k13 : PySem.W.keepIn K (.ref f13) = true)
    {f14 : Addr} {od14 an14 : Option Addr} {sl14 : Array (Option Value)} {oc14 kV14 dc14 pm14 ct14 : Value} {cd14 : Value}
    (a14 : PySem.W.nsIn K mainGlobals "_law_alike" = some (some (.ref f14))) (l14 : K.lookup f14 = some ⟨oc14, od14, .func (PySem.W.fnOf "_law_alike" "_law_alike" (defArgs (topS 22)) (defBody (topS 22)) (defScope (topS 22)) .none kV14 dc14 pm14 an14 cd14 ct14), sl14⟩) (c14 : PySem.W.codeIn K cd14 "_law_alike" = true) (k14 : PySem.W.keepIn K (.ref f14) = true)
    {f15 : Addr} {od15 an15 : Option Addr} {sl15 : Array (Option Value)} {oc15 kV15 dc15 pm15 ct15 : Value}
    {cL : Addr} (a15 : PySem.W.nsIn K mainGlobals "law" = some (some (.ref f15))) (l15 : K.lookup f15 = some ⟨oc15, od15, .func (PySem.W.fnOf "law" "law" (defArgs (topS 25)) (defBody (topS 25)) (defScope (topS 25)) .none kV15 dc15 pm15 an15 (.ref cL) ct15), sl15⟩) (c15 : PySem.W.codeIn K (.ref cL) "law" = true) (k15 : PySem.W.keepIn K (.ref f15) = true)
    {P0 : Addr} {dd0 : Option Addr} {vs0 : Array Value} {sl0 : Array (Option Value)} {file0 : Str} {tf0 tg0 tt0 : Tok} {flags0 text0 : Int} {inF0 : Bool} (y1 : K.lookup cL = some ⟨.type "code", dd0, .fields vs0, sl0⟩) (y2 : vs0[11]? = some (.ref P0)) (y3 : vs0.getD 18 .none = .str file0 tf0) (y4 : vs0.getD 7 .none = .int flags0 tg0) (y5 : vs0.getD 9 .none = .bool inF0) (y6 : vs0.getD 10 .none = .int text0 tt0) (y7 : cL ≠ P0) (y8 : K.lookup P0 = none)
    (own : LamX.OwnTab K fa h) : LamX.LawAtS l w K (L2.CX l.prog w) 10 63 "_law_script" mg fa h := by
  have T : Top K mg := ⟨PySem.W.mg_none_of X G z_abs, PySem.W.mg_none_of X G z_all, PySem.W.mg_none_of X G z_bool, PySem.W.mg_none_of X G z_int, PySem.W.mg_none_of X G z_isinstance, PySem.W.mg_none_of X G z_len, PySem.W.mg_none_of X G z_list, PySem.W.mg_none_of X G z_range, PySem.W.mg_none_of X G z_str, PySem.W.mg_none_of X G z_tuple, ⟨t_MOST_STEPS, PySem.W.mg_of X G z_MOST_STEPS⟩, ⟨t_MOST_MOVES, PySem.W.mg_of X G z_MOST_MOVES⟩, ⟨f0, _, fun_mk (st := topS 6) l0 c0 k0, PySem.W.mg_of X G a0⟩, ⟨f1, _, fun_mk (st := topS 8) l1 c1 k1, PySem.W.mg_of X G a1⟩, ⟨f2, _, fun_mk (st := topS 14) l2 c2 k2, PySem.W.mg_of X G a2⟩, ⟨f3, _, fun_mk (st := topS 15) l3 c3 k3, PySem.W.mg_of X G a3⟩, ⟨f4, _, fun_mk (st := topS 21) l4 c4 k4, PySem.W.mg_of X G a4⟩, ⟨f5, _, fun_mk (st := topS 23) l5 c5 k5, PySem.W.mg_of X G a5⟩, ⟨f6, _, fun_mk (st := topS 7) l6 c6 k6, PySem.W.mg_of X G a6⟩, ⟨f7, _, fun_mk (st := topS 16) l7 c7 k7, PySem.W.mg_of X G a7⟩, ⟨f8, _, fun_mk (st := topS 24) l8 c8 k8, PySem.W.mg_of X G a8⟩, ⟨f9, _, fun_mk (st := topS 12) l9 c9 k9, PySem.W.mg_of X G a9⟩, ⟨f10, _, fun_mk (st := topS 13) l10 c10 k10, PySem.W.mg_of X G a10⟩, ⟨f11, _, fun_mk (st := topS 17) l11 c11 k11, PySem.W.mg_of X G a11⟩, ⟨f12, _, fun_mk (st := topS 18) l12 c12 k12, PySem.W.mg_of X G a12⟩, ⟨f13, _, fun_mk (st := topS 19) l13 c13 k13, PySem.W.mg_of X G a13⟩, ⟨f14, _, fun_mk (st := topS 22) l14 c14 k14, PySem.W.mg_of X G a14⟩, ⟨f15, _, fun_mk (st := topS 25) l15 c15 k15, PySem.W.mg_of X G a15⟩⟩
  have e := hfa.symm.trans (PySem.W.mg_of X G a15)
  cases e
  exact law_end X hfa l15 rfl ⟨⟨_, _, _, _, _, _, _, _, _, _, y1, y2, y3, y4, y5, y6, y7, y8⟩⟩ own (fun s v => .of_eq rfl) fun base _ _ TB LT => law_imp (k_law_at T (fun_mk (st := topS 25) l15 c15 k15) rfl TB LT) law_true
end Law
open PySem PySem.W PyProof.Rows
set_option maxHeartbeats 0 in
theorem PySem.Challenge.cw_temperworks_k83_whole_shortest_moves_holds : PySem.Challenge.rw_temperworks_k83_whole_shortest_moves.Holds := by
  w_on; o_law; k_head; (case hw => w_witness2)
  k_fill
  refine LamX.walk_ofOwn (l := PySem.Challenge.rw_temperworks_k83_whole_shortest_moves) (n := 63) (k := 10) (x := "_law_script") (CX := fun w => L2.CX (PySem.W.OpenLaw.prog PySem.Challenge.rw_temperworks_k83_whole_shortest_moves) w) rfl (by decide) rfl ⟨rfl, by decide, by decide⟩ (by kernel_rfl) (fun w h Y => by first | exact PySem.W.kIn_of Y | exact PySem.W.km_in_of Y) ?F (fun _ _ _ _ _ h => FL.noE0 h)
  case F =>
    intro w mg fa h _ KX G hmg own
    refine' Law.all_mk KX G hmg ?z_abs ?z_all ?z_bool ?z_int ?z_isinstance ?z_len ?z_list ?z_range ?z_str ?z_tuple ?z_MOST_STEPS ?z_MOST_MOVES ?a0 ?l0 ?c0 ?k0 ?a1 ?l1 ?c1 ?k1 ?a2 ?l2 ?c2 ?k2 ?a3 ?l3 ?c3 ?k3 ?a4 ?l4 ?c4 ?k4 ?a5 ?l5 ?c5 ?k5 ?a6 ?l6 ?c6 ?k6 ?a7 ?l7 ?c7 ?k7 ?a8 ?l8 ?c8 ?k8 ?a9 ?l9 ?c9 ?k9 ?a10 ?l10 ?c10 ?k10 ?a11 ?l11 ?c11 ?k11 ?a12 ?l12 ?c12 ?k12 ?a13 ?l13 ?c13 ?k13 ?a14 ?l14 ?c14 ?k14 ?a15 ?l15 ?c15 ?k15 ?y1 ?y2 ?y3 ?y4 ?y5 ?y6 ?y7 ?y8 own
    (case z_abs => k_is); (case z_all => k_is); (case z_bool => k_is); (case z_int => k_is); (case z_isinstance => k_is); (case z_len => k_is); (case z_list => k_is); (case z_range => k_is); (case z_str => k_is); (case z_tuple => k_is); (case z_MOST_STEPS => k_is); (case z_MOST_MOVES => k_is); (case a0 => k_is); (case l0 => k_is); (case c0 => k_is); (case k0 => k_is); (case a1 => k_is); (case l1 => k_is); (case c1 => k_is); (case k1 => k_is); (case a2 => k_is); (case l2 => k_is); (case c2 => k_is); (case k2 => k_is); (case a3 => k_is); (case l3 => k_is); (case c3 => k_is); (case k3 => k_is); (case a4 => k_is); (case l4 => k_is); (case c4 => k_is); (case k4 => k_is); (case a5 => k_is); (case l5 => k_is); (case c5 => k_is); (case k5 => k_is); (case a6 => k_is); (case l6 => k_is); (case c6 => k_is); (case k6 => k_is); (case a7 => k_is); (case l7 => k_is); (case c7 => k_is); (case k7 => k_is); (case a8 => k_is); (case l8 => k_is); (case c8 => k_is); (case k8 => k_is); (case a9 => k_is); (case l9 => k_is); (case c9 => k_is); (case k9 => k_is); (case a10 => k_is); (case l10 => k_is); (case c10 => k_is); (case k10 => k_is); (case a11 => k_is); (case l11 => k_is); (case c11 => k_is); (case k11 => k_is); (case a12 => k_is); (case l12 => k_is); (case c12 => k_is); (case k12 => k_is); (case a13 => k_is); (case l13 => k_is); (case c13 => k_is); (case k13 => k_is); (case a14 => k_is); (case l14 => k_is); (case c14 => k_is); (case k14 => k_is); (case a15 => k_is); (case l15 => k_is); (case c15 => k_is); (case k15 => k_is); (case y1 => k_is); (case y2 => rfl); (case y3 => rfl); (case y4 => rfl); (case y5 => rfl); (case y6 => rfl); (case y7 => decide); (case y8 => kernel_rfl)

