import PyProof.Rows.All
import Wide.All
import OpenK.AllK
import Wide.FinOn
import HandS.ForMost
import HandS.Conv
import KE.KDictKeyed
import KE.KDictWalk
import HandS.SortOrd
import HandS.SortRule
import KE.KDictSum
import KE.KDictPairs
import HandS.TupSets
import HandS.SetFor
import HandS.ForExc
import HandS.IsInst
import HandS.TupAny
import HandS.TupMul
import HandS.TryMany
import HandS.CallSlots
import HandS.CallLocal
import HandS.Walk
import HandS.Zip
import HandS.Deep
import HandS.Wide
import HandS.Lambda
import KE.GoesMore
import KE.GoesEnum
import HandS.Style
import HandS.TupLe
import HandS.HeadHook4
import HandS.HeadWalk
import HandS.Head2
import PyProof.LongRange
import KE.KDictList
import KE.GoesZip
import KE.KItemsList
import HandS.Keys
import HandS.TupLen
import HandS.HeadNt
import PySem.Challenge.RW_anyumbrellas_k05_whole_papers_of_dry_wal
set_option Elab.async false
set_option linter.all false
set_option maxRecDepth 100000
set_option maxHeartbeats 4000000
/-! dicts whose keys are tuples of numbers, bools, None, nested: over the layer -/
namespace AU
open PySem PySem.Spec PyProof.Rows L2

mutual
/-- no text in it -/
def nkPlain : NestedKey → Bool
  | .none => true
  | .num _ => true
  | .text _ => false
  | .tup ks => nkPlainA ks
def nkPlainA : List NestedKey → Bool
  | [] => true
  | k :: ks => nkPlain k && nkPlainA ks
end
mutual
theorem nk_hash (w w' : World) : ∀ k : NestedKey, nkPlain k = true → k.hash w = k.hash w'
  | .none, _ => rfl
  | .num i, _ => rfl
  | .text _, h => by simp [nkPlain] at h
  | .tup ks, h => by
    unfold nkPlain at h
    rw [NestedKey.hash, NestedKey.hash, nk_hashes w w' ks h]
theorem nk_hashes (w w' : World) : ∀ ks : List NestedKey, nkPlainA ks = true → NestedKey.hashes w ks = NestedKey.hashes w' ks
  | [], _ => rfl
  | k :: ks, h => by
    unfold nkPlainA at h
    rw [Bool.and_eq_true] at h
    rw [NestedKey.hashes, NestedKey.hashes, nk_hash w w' k h.1, nk_hashes w w' ks h.2]
end
abbrev DEnt := NestedKey × Addr × V
abbrev DEntV := NestedKey × Addr × Value
def EntR (p : DEnt) (q : DEntV) : Prop := p.1 = q.1 ∧ p.2.1 = q.2.1 ∧ RelV p.2.2 q.2.2
def EsIs (es : Array DictEntry) (ys : List DEntV) : Prop := ∀ (P : Program) (w : World), es.toList = ys.map (entryOfKey (nestedKind P w))
theorem esIs_of {P : Program} {w : World} {es : Array DictEntry} {ys : List DEntV} (h : es.toList = ys.map (entryOfKey (nestedKind P w))) (pl : ∀ y ∈ ys, nkPlain y.1 = true) : EsIs es ys := fun P' w' => by
  rw [h]
  refine List.map_congr_left fun y hy => ?_
  have e : (nestedKind P w).hash y.1 = (nestedKind P' w').hash y.1 := nk_hash w w' y.1 (pl y hy)
  unfold entryOfKey
  rw [e]
/-- the dict at a has these entries -/
def dxP (a : Addr) (xs : List DEnt) (h : Heap) : Prop :=
  xs.length ≤ sizeLine ∧ (a == sysModules) = false ∧ (∀ x ∈ xs, nkPlain x.1 = true) ∧ ∃ ys : List DEntV, Paired EntR xs ys ∧
    ∃ o es ep, h.get? a = some o ∧ o.ExactDict ∧ o.data = .dict es ep ∧ EsIs es ys ∧ (ys.map (·.1)).Nodup
def dxO (a : Addr) (xs : List DEnt) : HO := .ext (dxP a xs)
theorem dxO_ok {P : Program} {w : World} {H : Hp} {h : Heap} {a : Addr} {xs : List DEnt} (x : dxP a xs h) : ObjOk P w H h a (dxO a xs) := by
  refine ⟨x, ?_, fun h1 h2 p k => ?_⟩
  · obtain ⟨_, _, _, _, _, o, _, _, e, _⟩ := x
    exact ⟨o, e⟩
  · obtain ⟨z, d, pl, ys, r, o, es, ep, e, q⟩ := p
    exact ⟨z, d, pl, ys, r, o, es, ep, k _ e, q⟩
theorem dxO_at {P : Program} {w : World} {H : Hp} {h : Heap} {a : Addr} {xs : List DEnt} (ok : HOk P w H h) (e : Rd H a (dxO a xs)) : dxP a xs h := by
  obtain ⟨x, _⟩ := (show ObjOk P w H h a (dxO a xs) from e.ok ok)
  exact x
def valX (xs : List DEnt) (k : NestedKey) : Option V := (xs.find? fun x => decide (x.1 = k)).map (·.2.2)
def putX (xs : List DEnt) (k : NestedKey) (b : Addr) (v : V) : List DEnt :=
  if (valX xs k).isSome = true then xs.map fun x => if x.1 = k then (x.1, x.2.1, v) else x else xs ++ [(k, b, v)]
theorem valX_rel {xs : List DEnt} {ys : List DEntV} (r : Paired EntR xs ys) (k : NestedKey) : RelO (valX xs k) ((atKey ys k).map (·.2)) := by
  unfold valX atKey
  induction r with
  | nil => exact trivial
  | @cons p q ps qs h t ih =>
    obtain ⟨e1, e2, e3⟩ := h
    rw [List.find?_cons, List.find?_cons, ← e1]
    by_cases hk : p.1 = k
    · rw [decide_eq_true hk]
      exact e3
    · rw [decide_eq_false hk]
      exact ih
theorem valX_some {xs : List DEnt} {ys : List DEntV} (r : Paired EntR xs ys) (k : NestedKey) : (valX xs k).isSome = (atKey ys k).isSome := by
  have q := (valX_rel r k).isSome_eq
  rw [Option.isSome_map] at q
  exact q
theorem putX_rel {xs : List DEnt} {ys : List DEntV} (r : Paired EntR xs ys) (k : NestedKey) (b : Addr) {v : V} {u : Value} (rv : RelV v u) : Paired EntR (putX xs k b v) (storedH ys k b u) := by
  unfold putX storedH
  rw [valX_some r k]
  by_cases h : (atKey ys k).isSome = true
  · rw [if_pos h, if_pos h]
    clear h
    induction r with
    | nil => exact .nil
    | @cons p q ps qs h t ih =>
      refine .cons ?_ ih
      obtain ⟨e1, e2, e3⟩ := h
      unfold putAt
      show EntR (if p.1 = k then (p.1, p.2.1, v) else p) _
      by_cases hk : p.1 = k
      · rw [if_pos hk, if_pos (e1 ▸ hk)]
        exact ⟨e1, e2, rv⟩
      · rw [if_neg hk, if_neg (e1 ▸ hk)]
        exact ⟨e1, e2, e3⟩
  · rw [if_neg h, if_neg h]
    clear h
    induction r with
    | nil => exact .cons ⟨rfl, rfl, rv⟩ .nil
    | cons h t ih => exact .cons h ih
theorem putX_length (xs : List DEnt) (k : NestedKey) (b : Addr) (v : V) : (putX xs k b v).length ≤ xs.length + 1 := by
  unfold putX
  split
  · simp
  · simp
theorem putX_plain {xs : List DEnt} {k : NestedKey} {b : Addr} {v : V} (h : ∀ x ∈ xs, nkPlain x.1 = true) (hk : nkPlain k = true) : ∀ x ∈ putX xs k b v, nkPlain x.1 = true := by
  unfold putX
  intro x hx
  split at hx
  · obtain ⟨y, hy, e⟩ := List.mem_map.mp hx
    subst e
    split
    · exact h y hy
    · exact h y hy
  · rcases List.mem_append.mp hx with q | q
    · exact h x q
    · rw [List.mem_singleton.mp q]
      exact hk

mutual
/-- the value v is the key k -/
inductive NkV (K : PySem.W.Frag) (H : Hp) : V → NestedKey → Prop
  | non : NkV K H .non .none
  | bl (b : Bool) : NkV K H (.bl b) (.num (if b = true then 1 else 0))
  | int (i : Int) : NkV K H (.int i) (.num i)
  | tup {a : Addr} {xs : List V} {ks : List NestedKey} : SqT K H a xs → NkVs K H xs ks → NkV K H (.ref a) (.tup ks)
inductive NkVs (K : PySem.W.Frag) (H : Hp) : List V → List NestedKey → Prop
  | nil : NkVs K H [] []
  | cons {v : V} {k : NestedKey} {vs : List V} {ks : List NestedKey} : NkV K H v k → NkVs K H vs ks → NkVs K H (v :: vs) (k :: ks)
end
section
variable {X : Cx} {pins : List (Addr × Obj)} {σ : L2.St} {H : Hp} {s : Shared}
mutual
theorem nkV_is (I : Inv X pins σ H s) : ∀ (k : NestedKey) {v : V} {u : Value}, NkV X.K H v k → RelV v u → NestedIs s.heap k u
  | .none, _, _, h, r => by
    cases h
    cases r
    exact .none
  | .num i, _, _, h, r => by
    cases h with
    | bl b => cases r; exact .bool rfl
    | int i => obtain ⟨t, rfl⟩ := r; exact .int _ _
  | .text x, _, _, h, _ => by cases h
  | .tup ks, _, _, h, r => by
    cases h with
    | @tup a xs _ h1 h2 =>
      cases r
      obtain ⟨its, rv, p, hz⟩ := I.tuple h1
      obtain ⟨o, ho, hc, n, hd⟩ := p
      exact .tup ho hc hd (nkVs_is I ks h2 rv)
theorem nkVs_is (I : Inv X pins σ H s) : ∀ (ks : List NestedKey) {vs : List V} {us : List Value}, NkVs X.K H vs ks → Vals vs us → NestedAll s.heap ks us
  | [], _, _, h, r => by
    cases h
    cases r
    exact .nil
  | k :: ks, _, _, h, r => by
    cases h with
    | cons h1 h2 =>
      cases r with
      | cons r1 r2 => exact .cons (nkV_is I k h1 r1) (nkVs_is I ks h2 r2)
end
end
mutual
theorem NkV.same {K : PySem.W.Frag} {H H' : Hp} (e : Same H H') : ∀ (k : NestedKey) {v : V}, NkV K H v k → NkV K H' v k
  | .none, _, h => by cases h; exact .non
  | .num i, _, h => by
    cases h with
    | bl b => exact .bl b
    | int i => exact .int i
  | .text x, _, h => by cases h
  | .tup ks, _, h => by
    cases h with
    | tup h1 h2 =>
      refine .tup ?_ (NkVs.same e ks h2)
      rcases h1 with (h | ⟨o, h⟩) | h
      · exact .inl (.inl (e _ _ h))
      · exact .inl (.inr ⟨o, e _ _ h⟩)
      · exact .inr h
theorem NkVs.same {K : PySem.W.Frag} {H H' : Hp} (e : Same H H') : ∀ (ks : List NestedKey) {vs : List V}, NkVs K H vs ks → NkVs K H' vs ks
  | [], _, h => by cases h; exact .nil
  | k :: ks, _, h => by
    cases h with
    | cons h1 h2 => exact .cons (NkV.same e k h1) (NkVs.same e ks h2)
end
mutual
theorem nkV_plain {K : PySem.W.Frag} {H : Hp} : ∀ (k : NestedKey) {v : V}, NkV K H v k → nkPlain k = true
  | .none, _, _ => rfl
  | .num i, _, _ => rfl
  | .text x, _, h => by cases h
  | .tup ks, _, h => by
    cases h with
    | tup h1 h2 =>
      unfold nkPlain
      exact nkVs_plain ks h2
theorem nkVs_plain {K : PySem.W.Frag} {H : Hp} : ∀ (ks : List NestedKey) {vs : List V}, NkVs K H vs ks → nkPlainA ks = true
  | [], _, _ => rfl
  | k :: ks, _, h => by
    cases h with
    | cons h1 h2 =>
      unfold nkPlainA
      rw [nkV_plain k h1, nkVs_plain ks h2]
      rfl
end
/-- a tuple that is a key -/
def KeyX (K : PySem.W.Frag) (H : Hp) (b : Addr) (k : NestedKey) : Prop := NkV K H (.ref b) k ∧ k.depth ≤ 8
def KeysX (K : PySem.W.Frag) (H : Hp) (xs : List DEnt) : Prop := ∀ x ∈ xs, KeyX K H x.2.1 x.1
/-- what d[y] reads -/
def DXG (K : PySem.W.Frag) (H : Hp) (a : Addr) (y : V) (o : Option V) : Prop := ∃ xs b k, Rd H a (dxO a xs) ∧ KeysX K H xs ∧ y = .ref b ∧ KeyX K H b k ∧ valX xs k = o
section
variable {X : Cx} {pins : List (Addr × Obj)} {σ : L2.St} {H : Hp} {s : Shared} {a b : Addr} {xs : List DEnt} {k : NestedKey} {y : V} {u : Value} {o : Option V} {A : Around} {E : Value → Shared → Prop}
theorem keyX_is (I : Inv X pins σ H s) (h : KeyX X.K H b k) : (nestedKind X.prog X.w).is s.heap k b := ⟨nkV_is I k h.1 rfl, h.2⟩
theorem dx_full (I : Inv X pins σ H s) (h : Rd H a (dxO a xs)) (hk : KeysX X.K H xs) : xs.length ≤ sizeLine ∧ (a == sysModules) = false ∧ ∃ ys, Paired EntR xs ys ∧ s.heap.DictOfH (nestedKind X.prog X.w) a ys := by
  obtain ⟨z, d, pl, ys, r, ob, es, ep, e, q1, q2, q3, q4⟩ := dxO_at I.hok h
  refine ⟨z, d, ys, r, ob, es, ep, e, q1, q2, q3 _ _, ?_, q4⟩
  intro y hy
  obtain ⟨i, hi⟩ := List.getElem?_of_mem hy
  obtain ⟨x, hx, e1, e2, _⟩ : ∃ x, xs[i]? = some x ∧ EntR x y := by
    clear q3 q4 hy pl hk h z
    induction r generalizing i with
    | nil => simp at hi
    | @cons p q ps qs h t ih =>
      cases i with
      | zero =>
        simp at hi
        subst hi
        exact ⟨p, rfl, h⟩
      | succ i =>
        obtain ⟨x, hx, r⟩ := ih i (by simpa using hi)
        exact ⟨x, by simpa using hx, r⟩
  rw [← e1, ← e2]
  exact keyX_is I (hk x (List.mem_of_getElem? hx))
theorem room8 (hu : A.units + 64 < cLine) (P : Program) (w : World) : (nestedKind P w).room A.in1 := by
  show A.units + 1 + 8 < cLine
  omega
theorem dx_getItem {v : V} {Q : Value → Shared → Prop} (hu : A.units + 64 < cLine) (I : Inv X pins σ H s) (g : DXG X.K H a y (some v)) (ry : RelV y u) (h : ∀ w' s', Inv X pins σ H s' → RelV v w' → Q w' s') :
    wpAny (model X.prog X.w) A (getItem (.ref a) u) Q E s := by
  obtain ⟨xs, b, k, hd, hk, rfl, kk, l⟩ := g
  cases ry
  obtain ⟨z, d, ys, r, dd⟩ := dx_full I hd hk
  obtain ⟨w', hw, rw'⟩ := RelO.some_of (v := v) (o := (atKey ys k).map (·.2)) (by rw [← l]; exact valX_rel r k)
  obtain ⟨p, hp, hp2⟩ := Option.map_eq_some_iff.mp hw
  refine wpAny_getItem_heap (room8 hu _ _) (keyX_is I kk) dd hp ?_
  rw [hp2]
  exact h w' _ (I.tok _) rw'
theorem dx_in {Q : Value → Shared → Prop} (hu : A.units + 64 < cLine) (I : Inv X pins σ H s) (g : DXG X.K H a y o) (ry : RelV y u) (h : ∀ s', Inv X pins σ H s' → Q (.bool o.isSome) s') :
    wpAny (model X.prog X.w) A (compareOp .In u (.ref a)) Q E s := by
  obtain ⟨xs, b, k, hd, hk, rfl, kk, l⟩ := g
  cases ry
  obtain ⟨z, d, ys, r, dd⟩ := dx_full I hd hk
  refine wpAny_in_heap (room8 hu _ _) (keyX_is I kk) d dd ?_
  rw [← valX_some r k, l]
  exact h _ (I.tok _)
theorem dx_notIn {Q : Value → Shared → Prop} (hu : A.units + 64 < cLine) (I : Inv X pins σ H s) (g : DXG X.K H a y o) (ry : RelV y u) (h : ∀ s', Inv X pins σ H s' → Q (.bool (!o.isSome)) s') :
    wpAny (model X.prog X.w) A (compareOp .NotIn u (.ref a)) Q E s := by
  obtain ⟨xs, b, k, hd, hk, rfl, kk, l⟩ := g
  cases ry
  obtain ⟨z, d, ys, r, dd⟩ := dx_full I hd hk
  refine wpAny_notIn_heap (room8 hu _ _) (keyX_is I kk) d dd ?_
  rw [← valX_some r k, l]
  exact h _ (I.tok _)
theorem dxP_of {P : Program} {w : World} {h : Heap} {ys : List DEntV} (z : xs.length ≤ sizeLine) (d : (a == sysModules) = false) (pl : ∀ x ∈ xs, nkPlain x.1 = true) (r : Paired EntR xs ys) (dd : h.DictOfH (nestedKind P w) a ys) : dxP a xs h := by
  obtain ⟨q, es, ep, h1, h2, h3, h4, h6, h5⟩ := dd
  refine ⟨z, d, pl, ys, r, q, es, ep, h1, h2, h3, esIs_of h4 ?_, h5⟩
  clear h4 h5 h6 z
  induction r with
  | nil => intro y hy; cases hy
  | @cons p q ps qs h t ih =>
    intro y hy
    rcases List.mem_cons.mp hy with e | hy
    · rw [e, ← h.1]
      exact pl p (by simp)
    · exact ih (fun x hx => pl x (by simp [hx])) y hy
theorem dx_setItem {v : V} {r : Value} {Q : Unit → Shared → Prop} (hu : A.units + 64 < cLine) (I : Inv X pins σ H s) (hd : H a = some (dxO a xs)) (hk : KeysX X.K H xs) (kk : KeyX X.K H b k) (l : xs.length < sizeLine) (rv : RelV v r)
    (h : ∀ s', Inv X pins σ (upd H a (dxO a (putX xs k b v))) s' → Q () s') : wpAny (model X.prog X.w) A (setItem (.ref a) (.ref b) r) Q E s := by
  obtain ⟨z, d, ys, rr, dd⟩ := dx_full I (.inl hd) hk
  have pl := (dxO_at I.hok (.inl hd)).2.2.1
  have hz : ys.length ≤ sizeLine := by rw [← Paired.length rr]; exact z
  refine wpAny_setItem_heap (hsz := hz) (room8 hu _ _) (keyX_is I kk) dd fun h' dd' hs => h _ ?_
  have q := dxP_of (P := X.prog) (w := X.w) (by have := putX_length xs k b v; omega) d (putX_plain pl (nkV_plain k kk.1)) (putX_rel rr k b rv) dd'
  obtain ⟨ob, es, ep, hq, _⟩ := dd'
  exact d_write I (by rw [hd]; exact True.intro) hs ⟨ob, hq⟩ (dxO_ok q)
theorem dx_typeIs (I : Inv X pins σ H s) (g : Rd H a (dxO a xs)) : s.TypeIs (.ref a) "dict" := by
  obtain ⟨_, _, _, ys, _, o, es, ep, h1, h2, _⟩ := dxO_at I.hok g
  exact ⟨o, h1, h2.1⟩
end

/-! ### readings and rules -/
def tXGet (K : PySem.W.Frag) (td ty : TE) : TE := fun σ H Q => td σ H fun x H1 => ty σ H1 fun y H2 => ∃ a v, x = .ref a ∧ DXG K H2 a y (some v) ∧ Q v H2
def tXIn (K : PySem.W.Frag) (ty td : TE) : TE := fun σ H Q => ty σ H fun y H1 => td σ H1 fun x H2 => ∃ a o, x = .ref a ∧ DXG K H2 a y o ∧ Q (.bl o.isSome) H2
def tXNotIn (K : PySem.W.Frag) (ty td : TE) : TE := fun σ H Q => ty σ H fun y H1 => td σ H1 fun x H2 => ∃ a o, x = .ref a ∧ DXG K H2 a y o ∧ Q (.bl (!o.isSome)) H2
def sXPut (K : PySem.W.Frag) (td ty tv : TE) : TS := fun D σ H => tv σ H fun v H1 => td σ H1 fun x H2 => ty σ H2 fun y H3 => ∃ a b xs k, x = .ref a ∧ y = .ref b ∧ H3 a = some (dxO a xs) ∧ KeysX K H3 xs ∧ KeyX K H3 b k ∧ xs.length < sizeLine ∧
  D.nx σ (upd H3 a (dxO a (putX xs k b v)))
def tXNew : TE := fun _ H Q => ∀ p, H p = none → Q (.ref p) (upd H p (dxO p []))
section
variable {X : Cx} {o i e value : Expr} {pos pos' tpos : Pos} {td ty tv : TE}
theorem pe_xget (hu : X.A.units + 64 < cLine) (ho : PE X o td) (hi : PE X i ty) (hs : NoSl i) : PE X (.Subscript o i pos) (tXGet X.K td ty) := by
  refine ⟨fun pins s σ H Q I h => ?_⟩
  refine subD_of PySem.F.slot_dict_getitem.lookup hs (thn (ho.run pins s σ H _ I h) fun u s1 ⟨x, H1, I1, rx, q1⟩ => thn (hi.run pins s1 σ H1 _ I1 q1) fun iv s2 ⟨y, H2, I2, ry, a, v, ex, g, q2⟩ => ?_)
  subst ex
  obtain rfl : u = Value.ref a := rx
  obtain ⟨xs, b, k, hd, _⟩ := id g
  exact ⟨dx_typeIs I2 hd, dx_getItem hu I2 g ry fun w' s3 I3 rw' => ⟨v, H2, I3, rw', q2⟩⟩
theorem pc_xin (hu : X.A.units + 64 < cLine) (hi : PE X i ty) (ho : PE X o td) : PC X .In i o (tXIn X.K ty td) := by
  refine ⟨fun pins s σ H Q I h => ?_⟩
  refine thn (hi.run pins s σ H _ I h) fun iv s1 ⟨y, H1, I1, ry, q1⟩ => thn (ho.run pins s1 σ H1 _ I1 q1) fun u s2 ⟨x, H2, I2, rx, a, ov, ex, g, q2⟩ => ?_
  subst ex
  obtain rfl : u = Value.ref a := rx
  exact dx_in hu I2 g ry fun s3 I3 => ⟨.bl ov.isSome, H2, I3, rfl, q2⟩
theorem pc_xnotin (hu : X.A.units + 64 < cLine) (hi : PE X i ty) (ho : PE X o td) : PC X .NotIn i o (tXNotIn X.K ty td) := by
  refine ⟨fun pins s σ H Q I h => ?_⟩
  refine thn (hi.run pins s σ H _ I h) fun iv s1 ⟨y, H1, I1, ry, q1⟩ => thn (ho.run pins s1 σ H1 _ I1 q1) fun u s2 ⟨x, H2, I2, rx, a, ov, ex, g, q2⟩ => ?_
  subst ex
  obtain rfl : u = Value.ref a := rx
  exact dx_notIn hu I2 g ry fun s3 I3 => ⟨.bl (!ov.isSome), H2, I3, rfl, q2⟩
theorem ps_xput (hu : X.A.units + 64 < cLine) (ho : PE X o td) (hi : PE X i ty) (hv : PE X value tv) (hs : swapsWith value (some (.Subscript o i pos')) pos.line X.env = pure false) :
    PS X (.Assign [.Subscript o i pos'] value pos) (sXPut X.K td ty tv) := by
  refine ⟨fun pins s σ H D I h => ?_⟩
  refine wpAny_Assign_Subscript (thn (hv.run pins s σ H _ I h) fun r s1 ⟨v, H1, I1, rv, q1⟩ => thn (ho.run pins s1 σ H1 _ I1 q1) fun u s2 ⟨x, H2, I2, rx, q2⟩ => thn (hi.run pins s2 σ H2 _ I2 q2) fun iv s3 ⟨y, H3, I3, ry, a, b, xs, k, ex, ey, h1, h2, h3, h4, q3⟩ => ?_) hs
  subst ex ey
  obtain rfl : u = Value.ref a := rx
  obtain rfl : iv = Value.ref b := ry
  exact dx_setItem hu I3 h1 h2 h3 h4 rv fun s4 I4 => ⟨σ, _, I4, q3⟩
theorem dx_empty {P : Program} {w : World} {H : Hp} (h : Heap) (hb : sysModules < h.objs.size) : ObjOk P w H (h.push { cls := .type "dict", data := .dict #[] }) h.objs.size (dxO h.objs.size []) :=
  dxO_ok ⟨Nat.zero_le _, beq_eq_false_iff_ne.mpr (Ne.symm (Nat.ne_of_lt hb)), (fun x hx => by cases hx), [], .nil, _, #[], 0, Heap.get?_push_size _ rfl, ⟨rfl, rfl, rfl⟩, rfl, (fun _ _ => rfl), List.nodup_nil⟩
theorem pe_xnew : PE X (.Dict [] [] pos) tXNew := ⟨fun pins s σ H Q I h =>
  wpAny_Dict_empty ⟨.ref s.heap.objs.size, _, I.laid (a := s.heap.objs.size) (o := dxO s.heap.objs.size []) (t' := s.toks) (fun _ _ q => Heap.get?_push_of_some _ q) (Nat.le_refl _) (dx_empty s.heap I.big), rfl, h _ (I.hok.fresh (Nat.le_refl _))⟩⟩
/-- a thing is locked for good -/
def tHold (t : TS) : TS := fun D σ H => ∃ d u, H d = some u ∧ Mut (some u) ∧ ∀ od, t D σ (upd H d (.frz od u))
theorem ps_hold {st : Stmt} {t : TS} (h : PS X st t) : PS X st (tHold t) := by
  refine ⟨fun pins s σ H D I hw => ?_⟩
  obtain ⟨d, u, hd, mu, hw⟩ := hw
  obtain ⟨od, I1⟩ := I.lock hd mu
  exact h.run pins s σ _ _ I1 (hw od)
theorem ps_or {st : Stmt} {t u : TS} (h : PS X st t) (h' : PS X st u) : PS X st (fun D σ H => t D σ H ∨ u D σ H) := by
  refine ⟨fun pins s σ H D I hw => ?_⟩
  rcases hw with q | q
  · exact h.run pins s σ _ _ I q
  · exact h'.run pins s σ _ _ I q
end
end AU
/-! sorted of flat tuples of ints and bools: of a list, of a dict; a dict walked; list(d), tuple(d) -/
namespace AU
open PySem PySem.Spec PyProof.Rows L2 SrtO Srt

inductive FlatIs : List Bool → List Int → List Value → Prop
  | nil : FlatIs [] [] []
  | int {sg : List Bool} {ns : List Int} {vs : List Value} (i : Int) (t : Tok) : FlatIs sg ns vs → FlatIs (false :: sg) (i :: ns) (.int i t :: vs)
  | bool {sg : List Bool} {ns : List Int} {vs : List Value} (b : Bool) : FlatIs sg ns vs → FlatIs (true :: sg) ((if b = true then 1 else 0) :: ns) (.bool b :: vs)
theorem FlatIs.len {sg : List Bool} {ns : List Int} {vs : List Value} (h : FlatIs sg ns vs) : vs.length = sg.length ∧ ns.length = sg.length := by
  induction h with
  | nil => exact ⟨rfl, rfl⟩
  | int i t h ih => simp [ih.1, ih.2]
  | bool b h ih => simp [ih.1, ih.2]
def lexL : List Int → List Int → Bool
  | x :: xs, y :: ys => if x = y then lexL xs ys else decide (x < y)
  | _, _ => false
theorem lexL_refl : ∀ xs, lexL xs xs = false
  | [] => rfl
  | x :: xs => by
    unfold lexL
    rw [if_pos rfl]
    exact lexL_refl xs
theorem lexL_asym : ∀ xs ys, lexL xs ys = true → lexL ys xs = false
  | [], _, h => by simp [lexL] at h
  | x :: xs, [], h => by simp [lexL] at h
  | x :: xs, y :: ys, h => by
    unfold lexL at h ⊢
    by_cases e : x = y
    · rw [if_pos e] at h
      rw [if_pos e.symm]
      exact lexL_asym xs ys h
    · rw [if_neg e] at h
      rw [if_neg (fun z => e z.symm)]
      have := of_decide_eq_true h
      exact decide_eq_false (by omega)
theorem lexL_tr : ∀ xs ys zs : List Int, xs.length = ys.length → ys.length = zs.length → lexL ys xs = false → lexL zs ys = false → lexL zs xs = false
  | [], ys, zs, h1, h2, _, _ => by
    cases zs with
    | nil => rfl
    | cons z zs =>
      cases ys with
      | nil => simp at h2
      | cons y ys => simp at h1
  | x :: xs, [], _, h1, _, _, _ => by simp at h1
  | x :: xs, y :: ys, [], _, h2, _, _ => by simp at h2
  | x :: xs, y :: ys, z :: zs, h1, h2, a, b => by
    unfold lexL at a b ⊢
    by_cases e1 : y = x
    · rw [if_pos e1] at a
      by_cases e2 : z = y
      · rw [if_pos e2] at b
        rw [if_pos (e2.trans e1)]
        exact lexL_tr xs ys zs (by simpa using h1) (by simpa using h2) a b
      · rw [if_neg e2] at b
        rw [if_neg (fun q => e2 (q.trans e1.symm))]
        have := of_decide_eq_false b
        exact decide_eq_false (by omega)
    · rw [if_neg e1] at a
      have a := of_decide_eq_false a
      by_cases e2 : z = y
      · rw [if_neg (fun q => e1 (e2.symm.trans q))]
        exact decide_eq_false (by omega)
      · rw [if_neg e2] at b
        have b := of_decide_eq_false b
        rw [if_neg (by omega)]
        exact decide_eq_false (by omega)
/-- keys cut to one length -/
def cutK (n : Nat) (l : List Int) : List Int := (l ++ List.replicate n 0).take n
theorem cutK_len (n : Nat) (l : List Int) : (cutK n l).length = n := by simp [cutK]
theorem cutK_id {n : Nat} {l : List Int} (h : l.length = n) : cutK n l = l := by subst h; simp [cutK]
theorem swo_cut {α : Type} (n : Nat) (k : α → List Int) : Swo fun v u => lexL (cutK n (k v)) (cutK n (k u)) :=
  ⟨fun x y h => lexL_asym _ _ h, fun x y z h1 h2 => lexL_tr _ _ _ (by rw [cutK_len, cutK_len]) (by rw [cutK_len, cutK_len]) h1 h2⟩
def IsFlatT (h : Heap) (sg : List Bool) (v : Value) (ns : List Int) : Prop := ∃ a o n vs, v = .ref a ∧ h.get? a = some o ∧ o.cls = .type "tuple" ∧ o.data = .seq vs n ∧ FlatIs sg ns vs.toList
theorem IsFlatT.keeps {h h' : Heap} {sg : List Bool} {v : Value} {ns : List Int} (x : IsFlatT h sg v ns) (k : ∀ b o, h.get? b = some o → o.cls = .type "tuple" → h'.get? b = some o) : IsFlatT h' sg v ns := by
  obtain ⟨a, o, n, vs, e, ho, hc, hd, hf⟩ := x
  exact ⟨a, o, n, vs, e, k _ _ ho hc, hc, hd, hf⟩
section
variable {prog : Program} {w : World} {A : Around} {E : Value → Shared → Prop} {s : Shared}
theorem flat_lex : ∀ {sg : List Bool} {ns ms : List Int} {vs us : List Value} (i : Nat) {R : Bool}, FlatIs sg ns vs → FlatIs sg ms us → (i = 0 → sg.head? ≠ some true) → R = lexL ns ms →
    PySem.W.KatLex prog w A true false (fun r s' => s' = s ∧ r = R) (vs.zip us) i s
  | _, _, _, _, _, i, R, .nil, h', _, e => by
    cases h'
    exact PySem.W.kat_nil ⟨rfl, e.symm⟩
  | _, _, _, _, _, i, R, .int x t h, h', hi, e => by
    cases h' with
    | int y u h' =>
      refine PySem.W.kat_cons (SeqAt.EqAt.int_int x t y u prog w _ _ ?_)
      refine PySem.W.kat_go (fun e1 => ?_) (fun e1 => ?_)
      · have ex : x = y := by simpa using e1
        refine PySem.W.kat_yes (flat_lex (i + 1) h h' (fun z => by omega) ?_)
        rw [e, lexL, if_pos ex]
      · have ex : ¬ x = y := by simpa using e1
        have e2 : R = decide (x < y) := by
          rw [e]
          unfold lexL
          rw [if_neg ex]
        cases i with
        | zero => exact PySem.W.kat_no (oneLt_int ⟨rfl, e2.symm⟩)
        | succ i =>
          refine PySem.W.kat_no (PySem.W.kat_one _ _ (PyProof.Rows.lt_int ?_))
          exact (show s = s ∧ decide (x < y) = R from ⟨rfl, e2.symm⟩)
  | _, _, _, _, _, i, R, .bool x h, h', hi, e => by
    cases h' with
    | bool y h' =>
      refine PySem.W.kat_cons (SeqAt.EqAt.bool_bool x y prog w _ _ ?_)
      refine PySem.W.kat_go (fun e1 => ?_) (fun e1 => ?_)
      · have ex : x = y := by simpa using e1
        refine PySem.W.kat_yes (flat_lex (i + 1) h h' (fun z => by omega) ?_)
        rw [e, lexL, if_pos (by rw [ex])]
      · have ex : ¬ x = y := by simpa using e1
        cases i with
        | zero => exact absurd rfl (hi rfl)
        | succ i =>
          refine PySem.W.kat_no (PySem.W.kat_one _ _ (PyProof.Rows.lt_bool ?_))
          refine (show s = s ∧ decide (PyProof.Rows.b2i x < PyProof.Rows.b2i y) = R from ⟨rfl, ?_⟩)
          rw [e]
          unfold lexL
          cases x <;> cases y <;> first | exact absurd rfl ex | rfl
theorem flat_cmp {vs : List Value} {sg : List Bool} {k : Value → List Int} (hf : sg.head? = some false) (hp : ∀ v ∈ vs, IsFlatT s.heap sg v (k v)) : Cmp prog w A s (tuples' true) (fun p => p.1 ∈ vs) (lt2 fun v u => lexL (cutK sg.length (k v)) (cutK sg.length (k u))) := by
  intro p q hm hm'
  obtain ⟨a, o, n, xs, e, ho, hc, hd, h1⟩ := hp _ hm
  obtain ⟨a', o', n', ys, e', ho', hc', hd', h2⟩ := hp _ hm'
  show wpAny (model prog w) A (keyLt' (tuples' true) p.1 q.1) (fun r s' => s' = s ∧ r = lexL (cutK sg.length (k p.1)) (cutK sg.length (k q.1))) (fun _ _ => False) s
  rw [cutK_id h1.len.2, cutK_id h2.len.2]
  generalize k p.1 = ns at h1 ⊢
  generalize k q.1 = ms at h2 ⊢
  rw [e, e']
  refine PySem.W.kat_lt ho hd ho' hd' ?_
  have hz : decide (xs.size < ys.size) = false := by
    have a1 := h1.len.1
    have a2 := h2.len.1
    simp only [Array.length_toList] at a1 a2
    exact decide_eq_false (by omega)
  rw [hz]
  exact flat_lex 0 h1 h2 (fun _ => by rw [hf]; simp) rfl
theorem flats_of {sg : List Bool} {k : Value → List Int} (hf : sg.head? = some false) : ∀ {vs : List Value}, (∀ v ∈ vs, IsFlatT s.heap sg v (k v)) → ∃ fs, PySem.W.KatTups s.heap vs fs ∧ fs.length = vs.length ∧ ∀ f ∈ fs, ∃ x t, f = Value.int x t
  | [], _ => ⟨[], PySem.W.KatTups.nil, rfl, fun f h => by cases h⟩
  | v :: vs, h => by
    obtain ⟨fs, a, b, c⟩ := flats_of hf (vs := vs) fun u hu => h u (by simp [hu])
    obtain ⟨x, o, n, xs, e, ho, hc, hd, hfl⟩ := h v (by simp)
    subst e
    generalize hns : k (Value.ref x) = ns at hfl
    cases hxs : xs.toList with
    | nil =>
      rw [hxs] at hfl
      have := hfl.len.1
      cases sg with
      | nil => simp at hf
      | cons b sg => simp at this
    | cons y ys =>
      have hy : ∃ i t, y = Value.int i t := by
        rw [hxs] at hfl
        cases sg with
        | nil => cases hfl
        | cons b sg =>
          simp at hf
          subst hf
          generalize hns : k (Value.ref x) = ns at hfl
          cases hfl with
          | int i t _ => exact ⟨i, t, rfl⟩
      refine ⟨y :: fs, PySem.W.KatTups.cons ho hc hd (f := y) ?_ a, by simp [b], fun f hf' => ?_⟩
      · rw [← Array.getElem?_toList, hxs]
        rfl
      · rcases List.mem_cons.mp hf' with e | e
        · rw [e]; exact hy
        · exact c f e
theorem flats_sortable {a : Addr} {vs : List Value} {sg : List Bool} {k : Value → List Int} (hf : sg.head? = some false) (h0 : 0 < vs.length) (hp : ∀ v ∈ vs, IsFlatT s.heap sg v (k v)) (ha : ∀ o, s.heap.get? a = some o → o.cls ≠ .type "tuple") :
    SortableO prog w A s a vs fun v u => lexL (cutK sg.length (k v)) (cutK sg.length (k u)) := by
  intro h' keep
  have hp' : ∀ v ∈ vs, IsFlatT h' sg v (k v) := fun v hm => (hp v hm).keeps fun b o e c => keep b o (fun z => by subst z; exact ha o e c) e
  obtain ⟨fs, h1, h2, h3⟩ := flats_of (s := { s with heap := h' }) hf hp'
  refine ⟨tuples' true, fun Q E hq => ?_, flat_cmp (s := { s with heap := h' }) hf hp'⟩
  refine PySem.W.kat_kind (T := .type "int") h1 (by omega) (fun f hm => ?_) (by rfl) ?_
  · obtain ⟨x, t, rfl⟩ := h3 f hm
    exact PySem.W.Looks.now
  · have e : (Value.type "int" != Value.type "tuple") = true := by first | decide +kernel | rfl | decide
    rw [e]
    exact hq
theorem sorted_flats {l : Addr} {vs : List Value} {sg : List Bool} {k : Value → List Int} {Q : Value → Shared → Prop} (hf : sg.head? = some false) (hl : s.heap.IsList l vs.toArray) (hz : vs.length ≤ sizeLine) (hp : ∀ v ∈ vs, IsFlatT s.heap sg v (k v))
    (h : ∀ (h₁ h' : Heap) (tk : Nat) (d : Addr) (out : List Value), Srtd (fun v u => lexL (cutK sg.length (k v)) (cutK sg.length (k u))) out → Stb (fun v u => lexL (cutK sg.length (k v)) (cutK sg.length (k u))) out vs → (∀ b o, s.heap.get? b = some o → h₁.get? b = some o) → (∀ b o, h₁.get? b = some o → h'.get? b = some o) → h₁.objs.size ≤ d → (∃ n, h'.get? d = some (seqObj "list" out.toArray n)) → Q (.ref d) { s with heap := h', toks := tk }) :
    wpAny (model prog w) A (call (.builtin "sorted") [.ref l]) Q E s := by
  refine sorted_ord (swo_cut sg.length k) hl hz (fun h2 h₁ a ha kk => ?_) fun out hs hb => ?_
  · refine flats_sortable (s := { s with heap := h₁ }) hf (by omega) (fun v hm => (hp v hm).keeps fun b o e _ => (kk b o e).2) fun o e => ?_
    have e' : some o = some (seqObj "list" vs.toArray 0) := e.symm.trans ha
    cases e'
    intro c
    exact absurd (Value.type.inj c) (by decide)
  · exact h s.heap _ s.toks _ out hs hb (fun _ _ e => e) (fun b o e => sortedAll_old e) (Nat.le_succ _) (sortedAll_at s.heap vs out.toArray)
theorem sorted_flatD {d : Addr} {o : Obj} {es : Array DictEntry} {ep : Nat} {sg : List Bool} {k : Value → List Int} {Q : Value → Shared → Prop} (hh : A.handled = none) (lo : (d == sysModules) = false) (ho : s.heap.get? d = some o) (hx : o.ExactDict) (hd : o.data = .dict es ep)
    (hf : sg.head? = some false) (hz : es.size ≤ sizeLine) (hp : ∀ v ∈ es.toList.map (·.key), IsFlatT s.heap sg v (k v))
    (h : ∀ (h₁ h' : Heap) (tk : Nat) (d : Addr) (out : List Value), Srtd (fun v u => lexL (cutK sg.length (k v)) (cutK sg.length (k u))) out → Stb (fun v u => lexL (cutK sg.length (k v)) (cutK sg.length (k u))) out (es.toList.map (·.key)) → (∀ b o, s.heap.get? b = some o → h₁.get? b = some o) → (∀ b o, h₁.get? b = some o → h'.get? b = some o) → h₁.objs.size ≤ d → (∃ n, h'.get? d = some (seqObj "list" out.toArray n)) → Q (.ref d) { s with heap := h', toks := tk }) :
    wpAny (model prog w) A (call (.builtin "sorted") [.ref d]) Q E s := by
  refine Calls.call_function_entry PyProof.Rows.kind_sorted PyProof.Rows.plain_sorted PyProof.Rows.entry_sorted (PyProof.Rows.args_sorted1 _) ?_
  unfold Builtin.«sorted»
  refine wpAny_bind (m := checkCount "sorted" 1 1 _) (wpAny_pure ?_)
  refine wpAny_bind (PySem.W.kdu_collect (A := A.in1) (kdl_raw lo hx hd) hh ho hz fun h' tk acc hk hacc => ?_)
  have hal : acc.toList = es.toList.map (·.key) := by
    have hl : acc.toList.length = es.toList.length := by rw [Array.length_toList, hacc.1, Array.length_toList]
    apply List.ext_getElem?
    intro j
    rw [List.getElem?_map]
    cases hj : acc.toList[j]? with
    | none =>
      have h1 := List.getElem?_eq_none_iff.mp hj
      rw [List.getElem?_eq_none (by omega)]
      rfl
    | some v =>
      obtain ⟨en, hen, hv⟩ := hacc.2 j v (by rw [← Array.getElem?_toList]; exact hj)
      rw [Array.getElem?_toList, hen, hv]
      rfl
  have hz' : acc.toList.length ≤ sizeLine := by rw [hal, List.length_map, Array.length_toList]; exact hz
  refine wpAny_bind (wpAny_newList ?_ hz')
  have hoL : (h'.push (seqObj "list" acc.toList.toArray 0)).get? h'.objs.size = some (seqObj "list" acc.toList.toArray 0) := Heap.get?_push_size _ rfl
  show wpAny _ _ _ _ _ { s with heap := h'.push (seqObj "list" acc.toList.toArray 0), toks := tk }
  refine wpAny_bind (wpAny_holding (wpAny_call_entry PyProof.Rows.slot_list_sort ⟨_, hoL, rfl⟩ PyProof.Rows.entry_list_sort
    (list_sort_ord (s := { s with heap := h'.push (seqObj "list" acc.toList.toArray 0), toks := tk }) (swo_cut sg.length k) hoL hz' (fun h2 => ?_) fun out hs hb => ⟨_, rfl, ?_⟩)
    (PyProof.Rows.args_list_sort _)))
  · refine flats_sortable (s := { s with heap := h'.push (seqObj "list" acc.toList.toArray 0), toks := tk }) hf (by omega) (fun v hm => ?_) fun o e => ?_
    · rw [hal] at hm
      exact (hp v hm).keeps fun b o e _ => Heap.get?_push_of_some _ (hk b o e)
    · have e' : some o = some (seqObj "list" acc.toList.toArray 0) := e.symm.trans hoL
      cases e'
      intro c
      exact absurd (Value.type.inj c) (by decide)
  · obtain ⟨e', he'⟩ := PyProof.Rows.sortedHeap_at (vs := acc.toList) (out := out.toArray) hoL
    rw [hal] at hb
    refine wpAny_pure ⟨_, rfl, h h' _ tk _ out hs hb hk (fun b u e => ?_) (Nat.le_refl _) ⟨e', by simpa using he'⟩⟩
    have hb2 : b < h'.objs.size := Heap.lt_size e
    rw [PyProof.Rows.sortedHeap_old (Nat.ne_of_lt hb2) (by rw [size_push']; exact Nat.lt_succ_of_lt hb2)]
    exact Heap.get?_push_of_some _ e
end
end AU
/-! a dict walked; list(d), tuple(d), sorted, dict(pairs) over the layer -/
namespace AU
open PySem PySem.Spec PyProof.Rows L2

theorem paired_at {α β : Type} {R : α → β → Prop} : ∀ {xs : List α} {ys : List β} {i : Nat} {y : β}, Paired R xs ys → ys[i]? = some y → ∃ x, xs[i]? = some x ∧ R x y
  | _, _, i, y, .nil, h => by simp at h
  | _, _, 0, y, .cons (a := a) h t, e => by
    simp at e
    subst e
    exact ⟨a, rfl, h⟩
  | _, _, i + 1, y, .cons h t, e => by
    obtain ⟨x, hx, r⟩ := paired_at (i := i) t (by simpa using e)
    exact ⟨x, by simpa using hx, r⟩
theorem paired_at' {α β : Type} {R : α → β → Prop} : ∀ {xs : List α} {ys : List β} {i : Nat} {x : α}, Paired R xs ys → xs[i]? = some x → ∃ y, ys[i]? = some y ∧ R x y
  | _, _, i, y, .nil, h => by simp at h
  | _, _, 0, y, .cons (b := b) h t, e => by
    simp at e
    subst e
    exact ⟨b, rfl, h⟩
  | _, _, i + 1, y, .cons h t, e => by
    obtain ⟨x, hx, r⟩ := paired_at' (i := i) t (by simpa using e)
    exact ⟨x, by simpa using hx, r⟩
/-- the keys of the held dict at d, in their order -/
def Itx (d : Addr) (o : Obj) (xs : List DEnt) : L2.It :=
  ⟨fun i H => H d = some (.frz o (dxO d xs)) ∧ i < xs.length, fun i H v H' => H' = H ∧ ∃ x : DEnt, xs[i]? = some x ∧ v = .ref x.2.1, fun i H => H d = some (.frz o (dxO d xs)) ∧ xs.length ≤ i⟩
section
variable {X : Cx} {pins : List (Addr × Obj)} {σ : L2.St} {H : Hp} {s : Shared} {d : Addr} {o : Obj} {xs : List DEnt}
theorem frzX (I : Inv X pins σ H s) (h : H d = some (.frz o (dxO d xs))) :
    (d == sysModules) = false ∧ s.heap.get? d = some o ∧ o.ExactDict ∧ ∃ (es : Array DictEntry) (ep : Nat), o.data = .dict es ep ∧ es.size = xs.length ∧
      ∀ (i : Nat) (x : DEnt), xs[i]? = some x → ∃ en : DictEntry, es[i]? = some en ∧ en.key = .ref x.2.1 := by
  obtain ⟨hd, ⟨z, hs, pl, ys, r, o', es, ep, ho, hx, hdt, he, _⟩, _⟩ := I.hok d _ h
  rw [hd] at ho
  cases ho
  have he := he X.prog X.w
  refine ⟨hs, hd, hx, es, ep, hdt, ?_, fun i x e => ?_⟩
  · have l1 : es.size = ys.length := size_of_entries he
    have l2 : xs.length = ys.length := Paired.length r
    omega
  · obtain ⟨y, hy, e1, e2, _⟩ := paired_at' r e
    have q := entry_at he i
    rw [hy] at q
    exact ⟨_, q, by rw [e2]; rfl⟩
end
theorem turn_x {P : Program} {w : World} {K : PySem.W.Frag} {tg : Expr} {d : Addr} {o : Obj} {es : Array DictEntry} {ep : Nat} {xs : List DEnt} (it : Addr) (hod : o.data = .dict es ep) : Turn P w K tg (Itx d o xs) [it] it (fun i h => h.IsKeyIter it d i xs.length ep) where
  mem := by simp
  obj := fun i h st b hb => by
    have e : b = it := by simpa using hb
    subst e
    obtain ⟨oi, e, c, dd⟩ := st
    exact ⟨oi, e, fun v z => by rw [dd] at z; cases z⟩
  keep := fun i h h' st k => st.at fun oi e => k it (by simp) oi e
  item := by
    intro X hP hw hK hc i pins s σ H E I hf st hg
    subst hP hw hK
    obtain ⟨hd, hi⟩ := hg
    obtain ⟨f0, f1, f2, f3, f4, f5⟩ := hf it (by simp)
    obtain ⟨hs, hgd, hx, es', ep', hdt, hsz, ent⟩ := frzX I hd
    obtain ⟨rfl, rfl⟩ := dict_ep hod hdt
    obtain ⟨x, hxx⟩ : ∃ p, xs[i]? = some p := ⟨xs[i], List.getElem?_eq_getElem hi⟩
    obtain ⟨en, hen, hkey⟩ := ent i x hxx
    refine next_key_item st hgd hdt hsz hen fun h' st' sb => ?_
    have I1 : Inv X pins σ H { s with heap := h' } := I.turned (t' := s.toks) (fun b ob hb e => (sb.2 b hb).trans e) f0 f1 f3 f4 f5
    obtain ⟨oi, e, c, dd⟩ := id st'
    exact ⟨en.key, rfl, go_of (s := { s with heap := h' }) e c dd (by decide) ⟨.ref x.2.1, H, I1, hkey, ⟨rfl, x, hxx, rfl⟩, st', fun b hb => (hf b hb).1⟩⟩
  done := by
    intro X hP hw hK hc i pins s σ H E I hf st hg
    subst hP hw hK
    obtain ⟨hd, hi⟩ := hg
    obtain ⟨f0, f1, f2, f3, f4, f5⟩ := hf it (by simp)
    obtain ⟨hs, hgd, hx, es', ep', hdt, hsz, ent⟩ := frzX I hd
    obtain ⟨rfl, rfl⟩ := dict_ep hod hdt
    exact next_key_end (I.ok.hd hc) st hgd hdt hsz hi fun h' eb => ⟨rfl, I.turned (t' := s.toks) (fun b ob hb e => eb b ob hb e) f0 f1 f3 f4 f5⟩
  self := fun A i s Q E st h => by
    refine wpAny_pyIter_slot st.typeIs F.slot_dict_keyiterator_iter (wpAny_call_entry F.slot_dict_keyiterator_iter st.typeIs F.entry_dict_keyiterator_iter ?_ (F.args_dict_keyiterator_iter_1 _))
    show wpAny _ _ (ret (.ref it)) _ _ s
    exact wpAny_pure ⟨_, rfl, "dict_keyiterator", _, st.typeIs, F.slot_dict_keyiterator_next.lookup, h⟩
/-- a list, a tuple, a held dict -/
def iSeqX (K : PySem.W.Frag) (tl : TE) : TI := fun σ H R => tl σ H fun x H1 => ∃ a, x = .ref a ∧ ((((∃ xs, SqL K H1 a xs) ∧ R (Itl K a) H1) ∨ ((∃ xs, SqT K H1 a xs) ∧ R (Itt K a) H1)) ∨ ∃ o xs, H1 a = some (.frz o (dxO a xs)) ∧ R (Itx a o xs) H1)
theorem pi_seqX {X : Cx} {tg l : Expr} {tl : TE} (hl : PE X l tl) : PI X tg l (iSeqX X.K tl) := by
  refine ⟨fun pins s σ H R I h => ?_⟩
  refine thn (hl.run pins s σ H _ I h) fun v s1 ⟨x, H1, I1, r1, q1⟩ => ?_
  obtain ⟨a, e, q⟩ := q1
  subst e
  obtain rfl : v = Value.ref a := r1
  have fp1 : ∀ b ∈ [s1.heap.objs.size], FpOk X pins H1 b := fun b hb => by
    have e : b = s1.heap.objs.size := by simpa using hb
    subst e
    exact I1.fpOk (Nat.le_refl _) (I1.hok.fresh (Nat.le_refl _))
  rcases q with (⟨⟨xs, hq⟩, q⟩ | ⟨⟨xs, hq⟩, q⟩) | ⟨o, xs, hd, q⟩
  · obtain ⟨its, rv, p, hz⟩ := I1.list hq
    refine wpAny_pyIter_list p.isList ?_
    exact ⟨s1.heap.objs.size, [s1.heap.objs.size], _, _, H1, rfl, I1.kept (t' := s1.toks) fun b o e => Heap.get?_push_of_some _ e, turn_list a _, ⟨_, Heap.get?_push_size _ rfl, rfl, rfl⟩, fp1, q⟩
  · obtain ⟨its, rv, p, hz⟩ := I1.tuple hq
    refine wpAny_pyIter_tuple (show s1.heap.IsTuple a its.toArray from p) ?_
    exact ⟨s1.heap.objs.size, [s1.heap.objs.size], _, _, H1, rfl, I1.kept (t' := s1.toks) fun b o e => Heap.get?_push_of_some _ e, turn_tuple a _, ⟨_, Heap.get?_push_size _ rfl, rfl, rfl⟩, fp1, q⟩
  · obtain ⟨hs, hgd, hx, es, ep, hdt, hsz, ent⟩ := frzX I1 hd
    refine iter_keys hs hgd hx hdt (pi_one (tk := s1.toks) I1 _ (turn_x _ hdt) ⟨_, Heap.get?_push_size _ rfl, rfl, ?_⟩ q)
    rw [hsz] <;> rfl

theorem refsV : ∀ bs : List Addr, Vals (bs.map V.ref) (bs.map Value.ref)
  | [] => .nil
  | _ :: r => .cons rfl (refsV r)
section
variable {X : Cx}
theorem keys_vals {es : Array DictEntry} {xs : List DEnt} (hsz : es.size = xs.length) (ent : ∀ (i : Nat) (x : DEnt), xs[i]? = some x → ∃ en : DictEntry, es[i]? = some en ∧ en.key = .ref x.2.1) :
    es.toList.map (·.key) = xs.map fun x => Value.ref x.2.1 := by
  apply List.ext_getElem?
  intro j
  rw [List.getElem?_map, List.getElem?_map]
  cases hj : xs[j]? with
  | none =>
    have h1 := List.getElem?_eq_none_iff.mp hj
    rw [List.getElem?_eq_none (by rw [Array.length_toList]; omega)]
    rfl
  | some x =>
    obtain ⟨en, hen, hk⟩ := ent j x hj
    rw [Array.getElem?_toList, hen]
    simp [hk]
/-- what stands at a, walked: a list, a tuple, a dict's keys -/
def SqX (K : PySem.W.Frag) (H : Hp) (a : Addr) (vs : List V) : Prop := SqL K H a vs ∨ SqT K H a vs ∨ ∃ xs : List DEnt, Rd H a (dxO a xs) ∧ vs = xs.map fun x => V.ref x.2.1
theorem call_list_dX (hc : X.calm = true) : CallR X (.type "list") (fun vs H Q => ∃ d xs, vs = [V.ref d] ∧ Rd H d (dxO d xs) ∧ ∀ p, H p = none → Q (.ref p) (upd H p (.lst (xs.map fun x => V.ref x.2.1)))) := by
  intro pins s σ H vs us Q I r h
  obtain ⟨d, xs, rfl, hd, q⟩ := h
  obtain ⟨u, rfl, rx⟩ := r.one
  cases rx
  obtain ⟨z, hs, pl, ys, pr, o, es, ep, ho, hx, hdt, he, hn⟩ := dxO_at I.hok hd
  have he := he X.prog X.w
  have l1 : es.size = ys.length := size_of_entries he
  have l2 : xs.length = ys.length := Paired.length pr
  refine PySem.W.kdl_call (kdl_raw hs hx hdt) (I.ok.hd hc) ho (by omega) fun h' tk acc' c' kp e it => ?_
  have ea : acc'.toList = es.toList.map (·.key) := by
    apply List.ext_getElem?
    intro j
    rw [List.getElem?_map]
    cases hj : acc'.toList[j]? with
    | none =>
      have h1 := List.getElem?_eq_none_iff.mp hj
      rw [Array.length_toList, it.1] at h1
      rw [List.getElem?_eq_none (by rw [Array.length_toList]; omega)]
      rfl
    | some v =>
      obtain ⟨en, hen, hv⟩ := it.2 j v (by rw [← Array.getElem?_toList]; exact hj)
      rw [Array.getElem?_toList, hen, hv]
      rfl
  have eb : acc'.toList = (xs.map fun x => x.2.1).map Value.ref := by
    rw [ea, keys_vals (xs := xs) (by omega) (fun i x e => ?_), List.map_map]
    · rfl
    · obtain ⟨y, hy, e1, e2, _⟩ := paired_at' pr e
      have q := entry_at he i
      rw [hy] at q
      exact ⟨_, q, by rw [e2]; rfl⟩
  have ec : (xs.map fun x => V.ref x.2.1) = (xs.map fun x => x.2.1).map V.ref := by rw [List.map_map]; rfl
  have rv : Vals (xs.map fun x => V.ref x.2.1) acc'.toList := by rw [eb, ec]; exact refsV _
  refine ⟨.ref s.heap.objs.size, _, I.laid (t' := tk) (o := .lst (xs.map fun x => V.ref x.2.1)) kp (Nat.le_refl _) ?_, rfl, q _ (I.hok.fresh (Nat.le_refl _))⟩
  refine ⟨?_, acc'.toList, c', rv, by rw [Array.toArray_toList]; exact e⟩
  rw [List.length_map]
  exact z

/-! ### sorted -/
inductive FlatV : List Bool → List Int → List V → Prop
  | nil : FlatV [] [] []
  | int {sg : List Bool} {ns : List Int} {vs : List V} (i : Int) : FlatV sg ns vs → FlatV (false :: sg) (i :: ns) (.int i :: vs)
  | bool {sg : List Bool} {ns : List Int} {vs : List V} (b : Bool) : FlatV sg ns vs → FlatV (true :: sg) ((if b = true then 1 else 0) :: ns) (.bl b :: vs)
theorem FlatV.is : ∀ {sg : List Bool} {ns : List Int} {vs : List V} {us : List Value}, FlatV sg ns vs → Vals vs us → FlatIs sg ns us
  | _, _, _, _, .nil, r => by cases r; exact .nil
  | _, _, _, _, .int i h, r => by
    cases r with
    | cons r1 r2 =>
      obtain ⟨t, rfl⟩ := r1
      exact .int i t (h.is r2)
  | _, _, _, _, .bool b h, r => by
    cases r with
    | cons r1 r2 =>
      cases r1
      exact .bool b (h.is r2)
def TupFn (K : PySem.W.Frag) (H : Hp) : Prop := ∀ t ys zs, SqT K H t ys → SqT K H t zs → ys = zs
abbrev ltF (n : Nat) (k : V → List Int) (x y : V) : Bool := lexL (cutK n (k x)) (cutK n (k y))
theorem ltF_swo (n : Nat) (k : V → List Int) : SrtO.Swo (ltF n k) := swo_cut n k
def rSortedF (K : PySem.W.Frag) : List V → Hp → VK → Prop := fun vs H Q => ∃ (a : Addr) (xs : List V) (k : V → List Int) (sg : List Bool), vs = [V.ref a] ∧ (SqL K H a xs ∨ ∃ es : List DEnt, Rd H a (dxO a es) ∧ xs = es.map fun x => V.ref x.2.1) ∧ sg.head? = some false ∧
  (∀ x ∈ xs, ∃ t ys, x = V.ref t ∧ SqT K H t ys ∧ FlatV sg (k x) ys) ∧
  (TupFn K H → ∀ ys p, SrtO.Srtd (ltF sg.length k) ys → SrtO.Stb (ltF sg.length k) ys xs → H p = none → Q (.ref p) (upd H p (.lst ys)))
theorem cr_sortedF (hc : X.calm = true) : CallR X (.builtin "sorted") (rSortedF X.K) := by
  intro pins s σ H vs us Q I r h
  obtain ⟨a, xs, k, sg, rfl, hs, hsg, hx, q⟩ := h
  obtain ⟨u, rfl, ru⟩ := vals1 r
  obtain rfl : u = Value.ref a := ru
  have tf : TupFn X.K H := fun t ys zs h1 h2 => I.tuple_inj h1 h2
  have flat : ∀ {its : List Value}, Vals xs its → xs = its.map backV ∧ (∀ u ∈ its, ∃ a, u = Value.ref a) ∧ ∀ v ∈ its, IsFlatT s.heap sg v (k (backV v)) := fun {its} rv => by
    obtain ⟨e1, e2⟩ := refs_back rv fun x m => by
      obtain ⟨t, _, e, _⟩ := hx x m
      exact ⟨t, e⟩
    refine ⟨e1, e2, fun v hv => ?_⟩
    obtain ⟨t, rfl⟩ := e2 v hv
    have hm : V.ref t ∈ xs := by rw [e1]; exact List.mem_map.mpr ⟨_, hv, rfl⟩
    obtain ⟨t', ys, e, ht, hf⟩ := hx _ hm
    cases e
    obtain ⟨its2, r2, ⟨o, ho, hc, n, hd⟩, _⟩ := I.tuple ht
    exact ⟨t, o, n, _, rfl, ho, hc, hd, hf.is (by simpa using r2)⟩
  have fin : ∀ {its : List Value} {h₁ h' : Heap} {tk : Nat} {d : Addr} {out : List Value}, Vals xs its → SrtO.Srtd (fun v u => lexL (cutK sg.length (k (backV v))) (cutK sg.length (k (backV u)))) out → SrtO.Stb (fun v u => lexL (cutK sg.length (k (backV v))) (cutK sg.length (k (backV u)))) out its →
      (∀ b o, s.heap.get? b = some o → h₁.get? b = some o) → (∀ b o, h₁.get? b = some o → h'.get? b = some o) → h₁.objs.size ≤ d → (∃ n, h'.get? d = some (seqObj "list" out.toArray n)) → xs.length ≤ sizeLine → EP X pins σ Q (.ref d) { s with heap := h', toks := tk } :=
    fun {its h₁ h' tk d out} rv h1 h2 k1 k2 hd hn hz => by
      obtain ⟨e1, e2, _⟩ := flat rv
      have h3 : ∀ u ∈ out, ∃ a, u = Value.ref a := fun u hu => e2 u (h2.perm.mem_iff.mp hu)
      obtain ⟨n, hn⟩ := hn
      have hb : SrtO.Stb (ltF sg.length k) (out.map backV) xs := by
        rw [e1]
        exact SrtO.Stb.map (ltF_swo sg.length k) backV h2
      have I1 : Inv X pins σ H { s with heap := h₁, toks := tk } := I.kept k1
      refine ⟨.ref d, upd H d (.lst (out.map backV)), I1.laid (t' := tk) k2 hd ⟨?_, out, n, vals_back h3, hn⟩, rfl, q tf _ d (SrtO.srtd_map h1) hb (I1.hok.fresh hd)⟩
      rw [hb.len]
      exact hz
  rcases hs with hs | ⟨es, hs, ex⟩
  · obtain ⟨its, rv, hl, hz⟩ := I.list hs
    exact sorted_flats (k := fun u => k (backV u)) hsg hl.isList (by rw [← rv.length]; exact hz) (flat rv).2.2 fun h₁ h' tk d out h1 h2 k1 k2 hd hn => fin rv h1 h2 k1 k2 hd hn hz
  · obtain ⟨z, hl, pl, ys, pr, o, ar, ep, ho, hxx, hdt, he, hn⟩ := dxO_at I.hok hs
    have he := he X.prog X.w
    have l1 : ar.size = ys.length := size_of_entries he
    have l2 : es.length = ys.length := Paired.length pr
    have ek := keys_vals (es := ar) (xs := es) (by omega) (fun i x e => by
      obtain ⟨y, hy, e1, e2, _⟩ := paired_at' pr e
      have q := entry_at he i
      rw [hy] at q
      exact ⟨_, q, by rw [e2]; rfl⟩)
    have rv : Vals xs (ar.toList.map (·.key)) := by
      rw [ek, ex]
      have e1 : (es.map fun x => V.ref x.2.1) = (es.map fun x => x.2.1).map V.ref := by rw [List.map_map]; rfl
      have e2 : (es.map fun x => Value.ref x.2.1) = (es.map fun x => x.2.1).map Value.ref := by rw [List.map_map]; rfl
      rw [e1, e2]
      exact refsV _
    exact sorted_flatD (k := fun u => k (backV u)) (I.ok.hd hc) hl ho hxx hdt hsg (by omega) (flat rv).2.2 fun h₁ h' tk d out h1 h2 k1 k2 hd hn => fin rv h1 h2 k1 k2 hd hn (by rw [ex, List.length_map]; exact z)

/-! ### dict(pairs) -/
def putAllX (acc prs : List DEnt) : List DEnt := prs.foldl (fun a p => putX a p.1 p.2.1 p.2.2) acc
theorem putAllX_rel : ∀ {ps : List DEnt} {qs : List DEntV} (xs : List DEnt) (ys : List DEntV), Paired EntR ps qs → Paired EntR xs ys → Paired EntR (putAllX xs ps) (storedAllH ys qs)
  | _, _, _, _, .nil, r => r
  | _, _, xs, ys, .cons (a := p) (b := q) h t, r => by
    show Paired EntR (putAllX (putX xs p.1 p.2.1 p.2.2) _) (storedAllH (storedH ys q.1 q.2.1 q.2.2) _)
    refine putAllX_rel _ _ t ?_
    rw [← h.1, ← h.2.1]
    exact putX_rel r _ _ h.2.2
theorem putAllX_length : ∀ (ps xs : List DEnt), (putAllX xs ps).length ≤ xs.length + ps.length
  | [], xs => Nat.le_refl _
  | p :: ps, xs => by
    have h1 := putAllX_length ps (putX xs p.1 p.2.1 p.2.2)
    have h2 := putX_length xs p.1 p.2.1 p.2.2
    show (putAllX (putX xs p.1 p.2.1 p.2.2) ps).length ≤ _
    rw [List.length_cons]
    omega
theorem putAllX_plain : ∀ (ps xs : List DEnt), (∀ x ∈ xs, nkPlain x.1 = true) → (∀ x ∈ ps, nkPlain x.1 = true) → ∀ x ∈ putAllX xs ps, nkPlain x.1 = true
  | [], xs, h, _ => h
  | p :: ps, xs, h, hp => putAllX_plain ps _ (putX_plain h (hp p (by simp))) fun x hx => hp x (by simp [hx])
/-- dict(ps), ps a list of pairs: a dict of one's own; one that is held -/
def DictArg (K : PySem.W.Frag) (H : Hp) (vs : List V) (prs : List DEnt) : Prop := ∃ (a : Addr) (ts : List Addr), vs = [V.ref a] ∧ SqL K H a (ts.map V.ref) ∧ Paired (fun t (p : DEnt) => SqT K H t [.ref p.2.1, p.2.2]) ts prs ∧ KeysX K H prs
def rDictX (K : PySem.W.Frag) : List V → Hp → VK → Prop := fun vs H Q => ∃ prs, DictArg K H vs prs ∧ ∀ p, H p = none → Q (.ref p) (upd H p (dxO p (putAllX [] prs)))
def rDictF (K : PySem.W.Frag) : List V → Hp → VK → Prop := fun vs H Q => ∃ prs, DictArg K H vs prs ∧ ∀ p o, H p = none → Q (.ref p) (upd H p (.frz o (dxO p (putAllX [] prs))))
theorem refsV_back : ∀ {ts : List Addr} {us : List Value}, Vals (ts.map V.ref) us → us = ts.map Value.ref
  | [], _, r => by cases r; rfl
  | t :: ts, _, r => by
    cases r with
    | cons r1 r2 =>
      cases r1
      rw [refsV_back r2]
      rfl
theorem pairs_x {pins : List (Addr × Obj)} {σ : L2.St} {H : Hp} {s : Shared} (I : Inv X pins σ H s) : ∀ {ts : List Addr} {prs : List DEnt}, Paired (fun t (p : DEnt) => SqT X.K H t [.ref p.2.1, p.2.2]) ts prs →
    ∃ qs : List DEntV, Paired EntR prs qs ∧ ∀ (j : Nat) (k : NestedKey) (b : Addr) (v : Value), qs[j]? = some (k, b, v) → ∃ t, ts[j]? = some t ∧ PairAt s.heap t (.ref b) v
  | _, _, .nil => ⟨[], .nil, fun j k b v h => by simp at h⟩
  | _, _, .cons (a := t) (b := p) h r => by
    obtain ⟨qs, rq, hq⟩ := pairs_x I r
    obtain ⟨its, rv, ⟨o, ho, hc, n, hd⟩, _⟩ := I.tuple h
    cases rv with
    | cons r1 rv =>
      cases rv with
      | cons r2 rv =>
        cases rv
        cases r1
        rename_i u
        refine ⟨(p.1, p.2.1, u) :: qs, .cons ⟨rfl, rfl, r2⟩ rq, fun j k b v e => ?_⟩
        cases j with
        | zero =>
          simp at e
          obtain ⟨rfl, rfl, rfl⟩ := e
          exact ⟨t, rfl, .inl ⟨o, ho, hc, n, hd⟩⟩
        | succ j =>
          obtain ⟨t', h1, h2⟩ := hq j k b v (by simpa using e)
          exact ⟨t', by simpa using h1, h2⟩
theorem dict_core (hc : X.calm = true) (hu : X.A.units + 64 < cLine) {pins : List (Addr × Obj)} {σ : L2.St} {H : Hp} {s : Shared} {vs : List V} {us : List Value} {prs : List DEnt} {Q : Value → Shared → Prop} (I : Inv X pins σ H s) (r : Vals vs us) (h : DictArg X.K H vs prs)
    (hQ : ∀ s', Inv X pins σ (upd H s.heap.objs.size (dxO s.heap.objs.size (putAllX [] prs))) s' → Q (.ref s.heap.objs.size) s') : wpAny (model X.prog X.w) X.A (call (.type "dict") us) Q X.xe s := by
  obtain ⟨a, ts, rfl, hs, hp, hk⟩ := h
  obtain ⟨u, rfl, ru⟩ := vals1 r
  obtain rfl : u = Value.ref a := ru
  obtain ⟨its, rv, ⟨o, n, ho, hcl, hdn, hda⟩, hz⟩ := I.list hs
  have ei := refsV_back rv
  obtain ⟨qs, rq, hq⟩ := pairs_x I hp
  have lq : qs.length = ts.length := (Paired.length rq).symm.trans (Paired.length hp).symm
  let pv : List (Value × Value) := qs.map fun q => (Value.ref q.2.1, q.2.2)
  have pvl : pv.length = qs.length := List.length_map _
  have pvg : ∀ (j : Nat) (k v : Value), pv[j]? = some (k, v) → ∃ kk b, qs[j]? = some (kk, b, v) ∧ k = .ref b := fun j k v e => by
    have e : (qs.map fun q => (Value.ref q.2.1, q.2.2))[j]? = some (k, v) := e
    rw [List.getElem?_map] at e
    cases e2 : qs[j]? with
    | none => rw [e2] at e; cases e
    | some q =>
      rw [e2] at e
      cases e
      exact ⟨q.1, q.2.1, rfl, rfl⟩
  have hz' : pv.length ≤ sizeLine := by rw [pvl, lq]; rw [List.length_map] at hz; exact hz
  refine call_dict_pairsH (knd := nestedKind X.prog X.w) (ps := qs) (PairArg.list a its.toArray (fun j => ts.getD j 0) pv) (I.ok.hd hc) (by show X.A.units + 1 + 1 + 8 < cLine; omega) ?_ ?_ ?_ hz' fun h' tk dd hk' => ?_
  · refine ⟨⟨o, n, ho, hcl, hdn, hda⟩, ?_, fun j k v e => ?_⟩
    · rw [List.size_toArray, ei, List.length_map, pvl, lq]
    · obtain ⟨kk, b, e1, rfl⟩ := pvg j k v e
      obtain ⟨t, e2, pa⟩ := hq j kk b v e1
      have e3 : ts.getD j 0 = t := by rw [List.getD_eq_getElem?_getD, e2]; rfl
      show its.toArray[j]? = some (.ref (ts.getD j 0)) ∧ PairAt s.heap (ts.getD j 0) _ _
      rw [e3]
      refine ⟨?_, pa⟩
      rw [List.getElem?_toArray, ei, List.getElem?_map, e2]
      rfl
  · exact ⟨pvl.symm, fun i key v e => by
      obtain ⟨kk, b, e1, e2⟩ := pvg i key v e
      exact ⟨kk, b, e1, e2⟩⟩
  · intro h' kp x hx
    obtain ⟨i, hi⟩ := List.getElem?_of_mem hx
    obtain ⟨y, hy, e1, e2, _⟩ := paired_at rq hi
    have q := keyX_is I (hk y (List.mem_of_getElem? hy))
    rw [e1, e2] at q
    refine ⟨NestedIs.at (fun c ob vs m e _ => kp c ob (Nat.ne_of_lt (Heap.lt_size e)) (by simp) e) _ _ q.1, q.2⟩
  · have keep : ∀ b ob, s.heap.get? b = some ob → h'.get? b = some ob := fun b ob e => hk' b ob (by simp) e
    have pl : ∀ x ∈ prs, nkPlain x.1 = true := fun x hx => nkV_plain _ (hk x hx).1
    refine hQ _ (I.laid (t' := tk) keep (Nat.le_refl _) (dxO_ok ?_))
    refine dxP_of (P := X.prog) (w := X.w) ?_ (beq_eq_false_iff_ne.mpr (Ne.symm (Nat.ne_of_lt I.big))) (putAllX_plain _ _ (fun x hx => by cases hx) pl) (putAllX_rel _ _ rq .nil) dd
    have := putAllX_length prs []
    rw [List.length_map] at hz
    have := Paired.length hp
    simp at *
    omega
theorem cr_dictX (hc : X.calm = true) (hu : X.A.units + 64 < cLine) : CallR X (.type "dict") (rDictX X.K) := by
  intro pins s σ H vs us Q I r h
  obtain ⟨prs, h, q⟩ := h
  exact dict_core hc hu I r h fun s' I' => ⟨.ref s.heap.objs.size, _, I', rfl, q _ (I.hok.fresh (Nat.le_refl _))⟩
theorem cr_dictF (hc : X.calm = true) (hu : X.A.units + 64 < cLine) : CallR X (.type "dict") (rDictF X.K) := by
  intro pins s σ H vs us Q I r h
  obtain ⟨prs, h, q⟩ := h
  refine dict_core hc hu I r h fun s' I' => ?_
  obtain ⟨od, I2⟩ := I'.lock upd_same True.intro
  rw [upd_upd] at I2
  exact ⟨.ref s.heap.objs.size, _, I2, rfl, q _ od (I.hok.fresh (Nat.le_refl _))⟩
end
end AU
/-! tables of sets to mask 511: the way of a search meets each slot -/
namespace SA
open PySem PySem.Spec PyProof.Rows
/-- the round of i -> 5 i + 1 at 511, reckoned once -/
def orbit : Nat → Nat → List Nat
  | 0, _ => []
  | n + 1, i => i :: orbit n ((i * 5 + 1) % 512)
theorem orbit_get : ∀ (n i k : Nat), k < n → (orbit n i)[k]? = some (L2.lcgI 511 i k)
  | 0, _, _, h => absurd h (Nat.not_lt_zero _)
  | n + 1, i, 0, _ => rfl
  | n + 1, i, k + 1, h => by
    have sh : ∀ (k i : Nat), L2.lcgI 511 i (k + 1) = L2.lcgI 511 ((i * 5 + 1) % 512) k := by
      intro k
      induction k with
      | zero => intro i; rfl
      | succ k ih =>
        intro i
        show (L2.lcgI 511 i (k + 1) * 5 + 1) % 512 = (L2.lcgI 511 ((i * 5 + 1) % 512) k * 5 + 1) % 512
        rw [ih]
    rw [sh]
    exact orbit_get n _ k (by omega)
theorem orbit_all : ((List.range 512).all fun j => (orbit 512 0).contains j) = true := by decide +kernel
theorem orbit_back : L2.lcgI 511 0 512 = 0 := by decide +kernel
theorem lcgI_plus (m i a : Nat) : ∀ k, L2.lcgI m (L2.lcgI m i a) k = L2.lcgI m i (a + k)
  | 0 => rfl
  | k + 1 => by
    show (L2.lcgI m (L2.lcgI m i a) k * 5 + 1) % (m + 1) = (L2.lcgI m i (a + k) * 5 + 1) % (m + 1)
    rw [lcgI_plus m i a k]
theorem lcg_at {j : Nat} (hj : j ≤ 511) : ∃ b, b ≤ 511 ∧ L2.lcgI 511 0 b = j := by
  have h := List.all_eq_true.mp orbit_all j (List.mem_range.mpr (by omega))
  obtain ⟨k, hk, e⟩ := List.getElem_of_mem (List.contains_iff_mem.mp h)
  have hk2 : k < 512 := by
    have : (orbit 512 0).length = 512 := by decide +kernel
    omega
  have e2 := orbit_get 512 0 k hk2
  rw [List.getElem?_eq_getElem hk, e] at e2
  exact ⟨k, by omega, (Option.some.inj e2).symm⟩
theorem lcg_from {i j : Nat} (hi : i ≤ 511) (hj : j ≤ 511) : ∃ k, k ≤ 511 ∧ L2.lcgI 511 i k = j := by
  obtain ⟨a, ha, rfl⟩ := lcg_at hi
  obtain ⟨b, hb, rfl⟩ := lcg_at hj
  by_cases c : a ≤ b
  · exact ⟨b - a, by omega, by rw [lcgI_plus, show a + (b - a) = b by omega]⟩
  · refine ⟨512 + b - a, by omega, ?_⟩
    rw [lcgI_plus, show a + (512 + b - a) = 512 + b by omega, ← lcgI_plus, orbit_back]
/-- a mask at which a search meets all slots -/
structure Full (m : Nat) : Prop where
  msk : m = 7 ∨ m = 31 ∨ m = 127 ∨ m = 511
  met : ∀ (h : Int) (j : Nat), j ≤ m → ∃ n, n ≤ m + 12 ∧ L2.runI m (SetTable.bits h) n = j
theorem Full.odd {m : Nat} (f : Full m) : m % 2 = 1 := by rcases f.msk with e | e | e | e <;> subst e <;> rfl
theorem Full.le {m : Nat} (f : Full m) : m ≤ 511 := by rcases f.msk with e | e | e | e <;> omega
theorem full_old {m : Nat} (hm : L2.MaskOk m) : Full m := ⟨by rcases hm with e | e | e <;> omega, fun h j hj => L2.run_meets hm h hj⟩
theorem full7 : Full 7 := full_old (.inl rfl)
theorem full31 : Full 31 := full_old (.inr (.inl rfl))
theorem full127 : Full 127 := full_old (.inr (.inr rfl))
theorem full511 : Full 511 := ⟨by simp, fun h j hj => by
  obtain ⟨k, hk, e⟩ := lcg_from (L2.runI_le 511 (SetTable.bits h) 12) hj
  refine ⟨12 + k, by omega, ?_⟩
  rw [L2.runI_tail (L2.bits_lt h)]
  exact e⟩
theorem Full.way {m : Nat} (f : Full m) (h : Int) {j : Nat} (hj : j ≤ m) : ∃ k, k < 10 * SetTable.turns m ∧ L2.way m h k = j := by
  obtain ⟨n, hn, e⟩ := f.met h j hj
  obtain ⟨k, hk, e2⟩ := L2.run_nth m (SetTable.bits h) n
  refine ⟨k, by unfold SetTable.turns; omega, ?_⟩
  show (L2.nth m (L2.runAt m (SetTable.bits h % (m + 1)) (SetTable.bits h)) k).j = j
  rw [e2]
  exact e
theorem way_in (m : Nat) (h : Int) (k : Nat) : L2.way m h k ≤ m := by
  have h0 : SetTable.bits h % (m + 1) ≤ m := Nat.le_of_lt_succ (Nat.mod_lt _ (Nat.succ_pos _))
  have hb := (L2.runEnd_bd h0).1
  have hc := (L2.runEnd_bd h0).2.1
  have q := L2.nth_in k (L2.runAt m (SetTable.bits h % (m + 1)) (SetTable.bits h)) (m := m) (show SetTable.bits h % (m + 1) + (SetTable.runEnd m (SetTable.bits h % (m + 1)) - SetTable.bits h % (m + 1)) ≤ m by omega)
  exact Nat.le_trans (Nat.le_add_right _ _) q
/-- each entry is found again from its hash -/
structure Tb (t : SetTable) (hs : List Int) : Prop where
  up : L2.Ris t.place.toList
  dm : t.dummies = #[]
  sz : t.place.toList.length = hs.length
  fu : Full t.mask
  le : ∀ x ∈ t.place.toList, x ≤ t.mask
  rd : ∀ (i : Nat) (h : Int) (j : Nat), hs[i]? = some h → t.place.toList[i]? = some j → ∃ k, L2.way t.mask h k = j ∧ ∀ c, c < k → L2.way t.mask h c ∈ t.place.toList
theorem Tb.gap {t : SetTable} {hs : List Int} (T : Tb t hs) (hl : hs.length ≤ t.mask) (h : Int) : ∃ K, K < 10 * SetTable.turns t.mask ∧ L2.way t.mask h K ∉ t.place.toList ∧ ∀ c, c < K → L2.way t.mask h c ∈ t.place.toList := by
  obtain ⟨j, hj, hn⟩ := L2.st_missing t.place.toList (t.mask + 1) (by rw [T.sz]; omega)
  obtain ⟨k, hk, e⟩ := T.fu.way h (Nat.le_of_lt_succ hj)
  obtain ⟨K, h1, h2, h3⟩ := L2.st_least (p := fun c => L2.way t.mask h c ∉ t.place.toList) k (e ▸ hn)
  exact ⟨K, Nat.lt_of_le_of_lt h1 hk, h2, fun c hc => Classical.not_not.mp (h3 c hc)⟩
theorem Tb.near {t : SetTable} {hs : List Int} (T : Tb t hs) {h : Int} {K i j : Nat} (hK : L2.way t.mask h K ∉ t.place.toList) (hi : hs[i]? = some h) (hj : t.place.toList[i]? = some j) : ∃ k, k < K ∧ L2.way t.mask h k = j := by
  obtain ⟨k, e, hb⟩ := T.rd i h j hi hj
  refine ⟨k, Nat.lt_of_not_le fun c => ?_, e⟩
  rcases Nat.eq_or_lt_of_le c with c | c
  · rw [c, e] at hK
    exact hK (List.mem_of_getElem? hj)
  · exact hK (hb K c)
/-- an entry comes in at the gap -/
theorem Tb.ins {t : SetTable} {hs : List Int} (T : Tb t hs) {h : Int} {K : Nat} (hK : L2.way t.mask h K ∉ t.place.toList) (hb : ∀ c, c < K → L2.way t.mask h c ∈ t.place.toList) {p : Nat} (hp : SetTable.below t.place (L2.way t.mask h K) = p) :
    p ≤ hs.length ∧ (t.put (L2.way t.mask h K)).2 = p ∧ Tb (t.put (L2.way t.mask h K)).1 (hs.take p ++ h :: hs.drop p) := by
  have hj := way_in t.mask h K
  have cut := (L2.below_cut T.up (L2.way t.mask h K)).1
  rw [hp] at cut
  have cut : p ≤ t.place.toList.length := by rw [Array.length_toList]; exact cut
  have cut2 : p ≤ hs.length := by rw [← T.sz]; exact cut
  have pl := L2.put_place t (L2.way t.mask h K)
  rw [hp] at pl
  have grows : ∀ {x : Nat}, x ∈ t.place.toList → x ∈ (t.put (L2.way t.mask h K)).1.place.toList := fun hx => by
    rw [pl]
    exact L2.mem_ins.mpr (.inr hx)
  have nw : t.place[SetTable.below t.place (L2.way t.mask h K)]? ≠ some (L2.way t.mask h K) := fun e => hK (List.mem_of_getElem? (by rw [Array.getElem?_toList]; exact e))
  refine ⟨cut2, hp, L2.ris_insert T.up nw, L2.put_dm T.dm _, ?_, T.fu, fun x hx => ?_, fun i h' j' a b => ?_⟩
  · rw [pl, L2.len_ins _ cut, L2.len_ins _ cut2, T.sz]
  · rw [pl] at hx
    rcases L2.mem_ins.mp hx with rfl | hx
    · exact hj
    · exact T.le x hx
  · rw [L2.tins_get hs cut2] at a
    rw [pl, L2.tins_get _ cut] at b
    have old : ∀ i, hs[i]? = some h' → t.place.toList[i]? = some j' → ∃ k, L2.way (t.put (L2.way t.mask h K)).1.mask h' k = j' ∧ ∀ c, c < k → L2.way (t.put (L2.way t.mask h K)).1.mask h' c ∈ (t.put (L2.way t.mask h K)).1.place.toList := fun i a b => by
      obtain ⟨k, e, z⟩ := T.rd i h' j' a b
      exact ⟨k, e, fun c hc => grows (z c hc)⟩
    split at a
    · rename_i c
      rw [if_pos c] at b
      exact old i a b
    · rename_i c
      rw [if_neg c] at b
      split at a
      · rename_i c2
        rw [if_pos c2] at b
        cases a
        cases b
        exact ⟨K, rfl, fun c hc => grows (hb c hc)⟩
      · rename_i c2
        rw [if_neg c2] at b
        exact old (i - 1) a b
end SA
/-! a table is laid anew -/
namespace SA
open PySem PySem.Spec PyProof.Rows
theorem seat {m : Nat} (f : Full m) (owner : Array (Option Nat)) (h : Int) {j : Nat} (hj : j ≤ m) (hf : L2.oAt owner j = none) :
    ∃ K, SetTable.layClean.free m owner (SetTable.turns m) (SetTable.bits h % (m + 1)) (SetTable.bits h) = some (L2.way m h K) ∧ L2.oAt owner (L2.way m h K) = none ∧ ∀ c, c < K → L2.oAt owner (L2.way m h c) ≠ none := by
  obtain ⟨n, hn, e⟩ := f.met h j hj
  have at_ : L2.way m h (L2.off m (SetTable.bits h % (m + 1)) (SetTable.bits h) n) = j := by
    show (L2.nth m (L2.runAt m (SetTable.bits h % (m + 1)) (SetTable.bits h)) (L2.off m (SetTable.bits h % (m + 1)) (SetTable.bits h) n)).j = j
    rw [L2.nth_off, L2.itL_run]
    exact e
  obtain ⟨K, k1, k2, k3⟩ := L2.st_least (p := fun c => L2.oAt owner (L2.way m h c) = none) (L2.off m (SetTable.bits h % (m + 1)) (SetTable.bits h) n) (at_.symm ▸ hf)
  refine ⟨K, L2.free_spec m owner (SetTable.turns m) n _ _ K (by unfold SetTable.turns; omega) k1 (fun c hc => ?_) ?_, k2, k3⟩
  · show (L2.oAt owner (L2.way m h c)).isNone = false
    have := k3 c hc
    cases z : L2.oAt owner (L2.way m h c) with
    | none => exact absurd z this
    | some _ => rfl
  · show (L2.oAt owner (L2.way m h K)).isNone = true
    have k2 : L2.oAt owner (L2.way m h K) = none := k2
    rw [k2]
    rfl
/-- who has been laid, by the slots -/
structure Lay (m : Nat) (done : List Int) (owner : Array (Option Nat)) : Prop where
  sz : owner.size = m + 1
  at_ : ∀ j k, j ≤ m → L2.oAt owner j = some k → ∃ h K, done[k]? = some h ∧ L2.way m h K = j ∧ ∀ c, c < K → L2.oAt owner (L2.way m h c) ≠ none
  all : ∀ k, k < done.length → ∃ j, j ≤ m ∧ L2.oAt owner j = some k
  few : ∃ ps : List Nat, ps.length = done.length ∧ ∀ j, j ≤ m → L2.oAt owner j ≠ none → j ∈ ps
theorem Lay.one {m : Nat} (f : Full m) {done : List Int} {owner : Array (Option Nat)} (W : Lay m done owner) (hl : done.length ≤ m) (h : Int) :
    ∃ owner', L2.stepF m (some (owner, done.length)) h = some (owner', (done ++ [h]).length) ∧ Lay m (done ++ [h]) owner' := by
  obtain ⟨ps, hps, hin⟩ := W.few
  obtain ⟨j0, h0, hn0⟩ := L2.st_missing ps (m + 1) (by omega)
  have free0 : L2.oAt owner j0 = none := by
    cases z : L2.oAt owner j0 with
    | none => rfl
    | some k => exact absurd (hin j0 (by omega) (by rw [z]; simp)) hn0
  obtain ⟨K, e1, e2, e3⟩ := seat f owner h (show j0 ≤ m by omega) free0
  have hjm := way_in m h K
  have hjs : L2.way m h K < owner.size := by rw [W.sz]; omega
  have hself := L2.oAt_set_self (some done.length) hjs
  have other : ∀ {i : Nat}, i ≠ L2.way m h K → L2.oAt (owner.setIfInBounds (L2.way m h K) (some done.length)) i = L2.oAt owner i := fun n => L2.oAt_set_ne _ n
  have stays : ∀ {i : Nat}, L2.oAt owner i ≠ none → L2.oAt (owner.setIfInBounds (L2.way m h K) (some done.length)) i ≠ none := fun {i} hi => by
    by_cases c : i = L2.way m h K
    · rw [c, hself]
      simp
    · rw [other c]
      exact hi
  refine ⟨_, by rw [L2.stepF_some e1, List.length_append]; rfl, ?_, fun j k hj e => ?_, fun k hk => ?_, L2.way m h K :: ps, ?_, fun j hj e => ?_⟩
  · rw [Array.size_setIfInBounds]
    exact W.sz
  · by_cases c : j = L2.way m h K
    · subst c
      rw [hself] at e
      cases e
      exact ⟨h, K, by simp, rfl, fun c hc => stays (e3 c hc)⟩
    · rw [other c] at e
      obtain ⟨h', K', a1, a2, a3⟩ := W.at_ j k hj e
      exact ⟨h', K', by rw [List.getElem?_append_left (List.getElem?_eq_some_iff.mp a1).1]; exact a1, a2, fun c hc => stays (a3 c hc)⟩
  · by_cases c : k < done.length
    · obtain ⟨j, hj, e⟩ := W.all k c
      have ne : j ≠ L2.way m h K := fun z => by
        rw [z, e2] at e
        cases e
      exact ⟨j, hj, by rw [other ne]; exact e⟩
    · have ek : k = done.length := by
        rw [List.length_append] at hk
        simp at hk
        omega
      exact ⟨_, hjm, by rw [ek]; exact hself⟩
  · simp [hps]
  · by_cases c : j = L2.way m h K
    · rw [c]
      exact List.mem_cons_self
    · rw [other c] at e
      exact List.mem_cons_of_mem _ (hin j hj e)
theorem lay_all {m : Nat} (f : Full m) : ∀ (rest done : List Int) (owner : Array (Option Nat)), Lay m done owner → done.length + rest.length ≤ m →
    ∃ owner', rest.foldl (L2.stepF m) (some (owner, done.length)) = some (owner', (done ++ rest).length) ∧ Lay m (done ++ rest) owner'
  | [], done, owner, W, _ => ⟨owner, by simp, by simpa using W⟩
  | h :: rest, done, owner, W, hl => by
    have hl : done.length + (rest.length + 1) ≤ m := hl
    obtain ⟨o1, e, W1⟩ := W.one f (by omega) h
    obtain ⟨o2, e2, W2⟩ := lay_all f rest (done ++ [h]) o1 W1 (by rw [List.length_append, List.length_singleton]; omega)
    have a : done ++ [h] ++ rest = done ++ h :: rest := by simp
    rw [a] at e2 W2
    exact ⟨o2, by rw [List.foldl_cons, e, e2], W2⟩
theorem lay_new {m : Nat} (f : Full m) {hs : Array Int} (hn : hs.size ≤ m) : ∃ owner, SetTable.layClean m hs = some owner ∧ Lay m hs.toList owner := by
  have W0 : Lay m [] (Array.replicate (m + 1) none) := ⟨by simp, fun j k hj e => absurd (L2.oAt_init hj) (by rw [e]; simp), fun k hk => absurd hk (Nat.not_lt_zero _), [], rfl, fun j hj e => absurd (L2.oAt_init hj) e⟩
  obtain ⟨o, e, W⟩ := lay_all f hs.toList [] _ W0 (by simpa using hn)
  rw [List.nil_append] at e W
  refine ⟨o, ?_, W⟩
  have e : List.foldl (L2.stepF m) (some (Array.replicate (m + 1) none, 0)) hs.toList = some (o, hs.toList.length) := e
  rw [L2.layClean_eq, e]
  rfl
/-- the new table, in some order of the entries -/
theorem anew (t : SetTable) {hs : Array Int} {wanted M : Nat} (hw : SetTable.sizeAbove wanted - 1 = M) (f : Full M) (hn : hs.size ≤ M) :
    ∃ t' order, t.relaid hs wanted = some (t', order) ∧ order.toList.Perm (List.range hs.size) ∧ Tb t' (order.toList.map fun i => hs.getD i 0) ∧ t'.mask = M ∧ t'.led = t.led ∧ t'.plain = t.plain := by
  obtain ⟨owner, e, W⟩ := lay_new f hn
  have live := L2.ris_live (fun j => owner.getD j none) (List.range (M + 1)) (by
    unfold L2.Ris
    exact List.pairwise_lt_range)
  have r1 : L2.Ris ((L2.liveOf M owner).map (·.1)) := live.1
  have r2 : ∀ x ∈ (L2.liveOf M owner).map (·.1), x ≤ M := fun x hx => Nat.le_of_lt_succ (List.mem_range.mp (live.2 x hx))
  have nd : ((L2.liveOf M owner).map (·.1)).Nodup := List.Pairwise.imp (fun h => Nat.ne_of_lt h) r1
  have hlen : (L2.liveOf M owner).length = hs.size := by
    obtain ⟨ps, p1, p2⟩ := W.few
    have a := L2.nat_nodup_len ((L2.liveOf M owner).map (·.1)) ps nd fun x hx => by
      obtain ⟨⟨y, k⟩, hq, rfl⟩ := List.mem_map.mp hx
      obtain ⟨b1, b2⟩ := (L2.mem_live W.sz).mp hq
      exact p2 y b1 (by rw [b2]; simp)
    have b := L2.nat_nodup_len (List.range hs.size) ((L2.liveOf M owner).map (·.2)) List.nodup_range fun k hk => by
      obtain ⟨j, b1, b2⟩ := W.all k (by simpa using List.mem_range.mp hk)
      exact List.mem_map.mpr ⟨(j, k), (L2.mem_live W.sz).mpr ⟨b1, b2⟩, rfl⟩
    simp at a b p1
    omega
  refine ⟨L2.tabOf t M owner, ((L2.liveOf M owner).map (·.2)).toArray, by rw [L2.relaid_eq, hw, e]; rfl, ?_, ⟨r1, rfl, ?_, f, r2, fun i h j a b => ?_⟩, rfl, rfl, rfl⟩
  · refine L2.perm_range hs.size _ (by simpa using hlen) fun k hk => ?_
    obtain ⟨j, b1, b2⟩ := W.all k (by simpa using hk)
    exact List.mem_map.mpr ⟨(j, k), (L2.mem_live W.sz).mpr ⟨b1, b2⟩, rfl⟩
  · show ((L2.liveOf M owner).map (·.1)).length = (((L2.liveOf M owner).map (·.2)).map fun i => hs.getD i 0).length
    simp
  · have a : (((L2.liveOf M owner).map (·.2)).map fun i => hs.getD i 0)[i]? = some h := a
    have b : ((L2.liveOf M owner).map (·.1))[i]? = some j := b
    rw [List.getElem?_map, List.getElem?_map] at a
    rw [List.getElem?_map] at b
    cases q : (L2.liveOf M owner)[i]? with
    | none => rw [q] at b; cases b
    | some p =>
      obtain ⟨y, k⟩ := p
      rw [q] at a b
      cases b
      have a : hs.getD k 0 = h := Option.some.inj a
      obtain ⟨b1, b2⟩ := (L2.mem_live W.sz).mp (List.mem_of_getElem? q)
      obtain ⟨h0, K, c1, c2, c3⟩ := W.at_ y k b1 b2
      have e0 : hs.getD k 0 = h0 := by
        rw [Array.getD_eq_getD_getElem?, ← Array.getElem?_toList, c1]
        rfl
      rw [e0] at a
      subst a
      refine ⟨K, c2, fun c hc => ?_⟩
      show L2.way M h0 c ∈ (L2.liveOf M owner).map (·.1)
      cases z : L2.oAt owner (L2.way M h0 c) with
      | none => exact absurd z (c3 c hc)
      | some k2 => exact List.mem_map.mpr ⟨(_, k2), (L2.mem_live W.sz).mpr ⟨way_in _ _ _, z⟩, rfl⟩
theorem grow5 : SetTable.sizeAbove (SetTable.grown 5) = 32 := by decide +kernel
theorem grow19 : SetTable.sizeAbove (SetTable.grown 19) = 128 := by decide +kernel
theorem grow77 : SetTable.sizeAbove (SetTable.grown 77) = 512 := by decide +kernel
end SA
/-! searches in a set of flat tuples -/
namespace SA
open PySem PySem.Spec PyProof.Rows
/-- an item of a flat tuple -/
def flatV : Value → Bool
  | .none => true
  | .bool _ => true
  | .int _ _ => true
  | _ => false
theorem flat_class {v : Value} (h : flatV v = true) (n : Nat) : ofAClassStatement n v = pure false := by
  cases v <;> first | (cases n <;> rfl) | cases h
theorem flat_hash {v : Value} (h : flatV v = true) (n : Nat) : hashByValue n v = pure true := by
  cases v <;> first | (cases n <;> rfl) | cases h
/-- a flat tuple -/
def Flat (h : Heap) (b : Addr) : Prop := ∃ o items n, h.get? b = some o ∧ o.cls = .type "tuple" ∧ o.data = .seq items n ∧ ∀ v ∈ items.toList, flatV v = true
theorem Flat.ty {s : Shared} {b : Addr} (h : Flat s.heap b) : s.TypeIs (.ref b) "tuple" := by
  obtain ⟨o, _, _, e, c, _, _⟩ := h
  exact ⟨o, e, c⟩
theorem Flat.keep {h h' : Heap} {b : Addr} (x : Flat h b) (k : ∀ o, h.get? b = some o → h'.get? b = some o) : Flat h' b := by
  obtain ⟨o, items, n, e, r⟩ := x
  exact ⟨o, items, n, k o e, r⟩
section
variable {P : Program} {w : World} {A : Around} {E : Value → Shared → Prop} {s : Shared}
theorem flat_ofAClass {b : Addr} {Q : Bool → Shared → Prop} (x : Flat s.heap b) (q : Q false s) : wpAny (model P w) A (ofAClassStatement 8 (.ref b)) Q E s := by
  have ty := x.ty
  obtain ⟨o, items, n, e, _, hd, hv⟩ := x
  unfold ofAClassStatement
  refine wpAny_bind (wpAny_typeOf ty ?_)
  dsimp only
  have ee : (("tuple" : String) == "tuple") = true := by decide
  simp only [ee, if_true, Bool.not_true, Bool.false_eq_true, if_false]
  try refine wpAny_bind (wpAny_pure ?_)
  try simp only [Bool.not_true, Bool.false_eq_true, if_false]
  show wpAny _ _ (seqItems? (.ref b) >>= _) _ _ s
  refine wpAny_bind (wpAny_seqItems e hd ?_)
  dsimp only
  refine wpAny_bind ?_
  show wpAny _ _ (forIn items _ _) _ _ s
  rw [← Array.forIn_toList]
  refine wpAny_forIn_list _ (fun l r s1 => (r.1 = none ∧ s1 = s) ∧ ∀ v ∈ l, flatV v = true) _ (fun v l r s1 hh => ?_) (fun r s1 hh => ?_) _ _ ⟨⟨rfl, rfl⟩, hv⟩
  · obtain ⟨⟨_, rfl⟩, hl⟩ := hh
    rw [flat_class (hl v (by simp))]
    refine wpAny_bind (wpAny_pure ?_)
    simp only [Bool.false_eq_true, if_false]
    exact wpAny_pure ⟨⟨rfl, rfl⟩, fun u hu => hl u (List.mem_cons_of_mem _ hu)⟩
  · obtain ⟨r1, r2⟩ := r
    obtain ⟨⟨h1, rfl⟩, _⟩ := hh
    simp only at h1
    subst h1
    exact wpAny_pure q
theorem flat_hashBy {b : Addr} {Q : Bool → Shared → Prop} (x : Flat s.heap b) (q : Q true s) : wpAny (model P w) A (hashByValue 8 (.ref b)) Q E s := by
  have ty := x.ty
  obtain ⟨o, items, n, e, _, hd, hv⟩ := x
  unfold hashByValue
  refine wpAny_bind (wpAny_specialOf ty F.slot_tuple_hash.lookup ?_)
  show wpAny _ _ (seqItems? (.ref b) >>= _) _ _ s
  refine wpAny_bind (wpAny_seqItems e hd ?_)
  refine wpAny_bind ?_
  show wpAny _ _ (forIn items _ _) _ _ s
  rw [← Array.forIn_toList]
  refine wpAny_forIn_list _ (fun l r s1 => (r.1 = none ∧ s1 = s) ∧ ∀ v ∈ l, flatV v = true) _ (fun v l r s1 hh => ?_) (fun r s1 hh => ?_) _ _ ⟨⟨rfl, rfl⟩, hv⟩
  · obtain ⟨⟨_, rfl⟩, hl⟩ := hh
    rw [flat_hash (hl v (by simp))]
    refine wpAny_bind (wpAny_pure ?_)
    simp only [Bool.not_true, Bool.false_eq_true, if_false]
    exact wpAny_pure ⟨⟨rfl, rfl⟩, fun u hu => hl u (List.mem_cons_of_mem _ hu)⟩
  · obtain ⟨r1, r2⟩ := r
    obtain ⟨⟨h1, rfl⟩, _⟩ := hh
    simp only at h1
    subst h1
    exact wpAny_pure q
variable {T : Type} [DecidableEq T] (knd : HeapKind P w T) {B : Prop}
/-- an entry -/
structure Ent (h : Heap) (p : Addr × T) : Prop where
  is : knd.is h p.2 p.1
  fl : Flat h p.1
def rowsS (L : List (Addr × T)) : List (Int × Value) := L.map fun p => (knd.hash p.2, Value.ref p.1)
variable {knd}
/-- nothing is seen of a search among flat tuples -/
theorem unseen {p : Addr × T} {ys : List Value} {Q : Bool → Shared → Prop} (x : Ent knd s.heap p) (hy : ∀ y ∈ ys, ∃ q : Addr × T, y = Value.ref q.1 ∧ Ent knd s.heap q) (q : Q false s) : wpAny (model P w) A (searchCouldBeSeen (.ref p.1) ys) Q E s := by
  unfold searchCouldBeSeen
  refine wpAny_bind ?_
  refine wpAny_forIn_list _ (fun l r s1 => (r.1 = none ∧ s1 = s) ∧ ∀ y ∈ l, ∃ q : Addr × T, y = Value.ref q.1 ∧ Ent knd s.heap q) _ (fun v l r s1 hh => ?_) (fun r s1 hh => ?_) _ _ ⟨⟨rfl, rfl⟩, hy⟩
  · obtain ⟨⟨_, rfl⟩, hl⟩ := hh
    obtain ⟨u, rfl, z⟩ := hl v (by simp)
    have next : ∀ y ∈ l, ∃ q : Addr × T, y = Value.ref q.1 ∧ Ent knd s1.heap q := fun y hy => hl y (List.mem_cons_of_mem _ hy)
    dsimp only
    by_cases c : (p.1 == u.1 || (carriedByValue (.ref p.1) && carriedByValue (.ref u.1))) = true
    · exact L2.wp_if_pos c (wpAny_pure ⟨⟨rfl, rfl⟩, next⟩)
    · refine L2.wp_if_neg c (wpAny_bind (knd.quiet x.is ?_))
      simp only [Bool.not_true, Bool.false_eq_true, if_false]
      refine wpAny_bind (knd.quiet z.is ?_)
      simp only [Bool.not_true, Bool.false_eq_true, if_false]
      refine wpAny_bind (flat_ofAClass x.fl ?_)
      simp only [Bool.false_eq_true, if_false]
      refine wpAny_bind (flat_ofAClass z.fl ?_)
      simp only [Bool.false_eq_true, if_false]
      exact wpAny_pure ⟨⟨rfl, rfl⟩, next⟩
  · obtain ⟨r1, r2⟩ := r
    obtain ⟨⟨h1, rfl⟩, _⟩ := hh
    simp only at h1
    subst h1
    exact wpAny_pure q
variable (knd) (B) in
/-- the set at a has the entries L -/
structure Set_ (h : Heap) (a : Addr) (L : List (Addr × T)) (es : Array (Int × Value)) (ep : Nat) (t : SetTable) : Prop where
  ob : ∃ o, h.get? a = some o ∧ o.ExactSet ∧ o.data = .set es ep t
  rows : es.toList = rowsS knd L
  tab : Tb t (L.map fun p => knd.hash p.2)
  nd : (L.map (·.2)).Nodup
  ent : ∀ p ∈ L, Ent knd h p
  plain : t.plain = true
  led : B → w.params.followText "set-order" = true ∨ t.led = true
  room : L.length * 5 < t.mask * 3
variable {a : Addr} {L : List (Addr × T)} {es : Array (Int × Value)} {ep : Nat} {t : SetTable}
theorem Set_.size (R : Set_ knd B s.heap a L es ep t) : es.size = L.length := by
  have := congrArg List.length R.rows
  simpa [rowsS] using this
theorem Set_.psize (R : Set_ knd B s.heap a L es ep t) : t.place.toList.length = L.length := by
  have := R.tab.sz
  simpa using this
theorem Set_.fits (R : Set_ knd B s.heap a L es ep t) : t.fits es.size = true := by
  have h1 := R.psize
  have h2 := R.size
  have h3 := R.room
  rw [Array.length_toList] at h1
  unfold SetTable.fits SetTable.fill
  rw [R.tab.dm, Bool.and_eq_true, beq_iff_eq, decide_eq_true_eq]
  exact ⟨by omega, by show t.place.size + 0 ≤ t.mask; omega⟩
theorem Set_.odd (R : Set_ knd B s.heap a L es ep t) : ¬ t.gaveWay = true := by
  unfold SetTable.gaveWay
  rw [R.tab.fu.odd]
  decide
theorem Set_.at_ (R : Set_ knd B s.heap a L es ep t) {i : Nat} {p : Addr × T} (h : L[i]? = some p) : es[i]? = some (knd.hash p.2, Value.ref p.1) := by
  rw [← Array.getElem?_toList, R.rows]
  simp [rowsS, h]
end
end SA
/-! the search itself -/
namespace SA
open PySem PySem.Spec PyProof.Rows
/-- the c-th state of the search for a hash -/
abbrev pr (t : SetTable) (h : Int) (c : Nat) : SetTable.Probe := L2.nth t.mask (t.probeStart h) c
theorem pr_way (t : SetTable) (h : Int) (c : Nat) : (pr t h c).j = L2.way t.mask h c := rfl
theorem pr_add (t : SetTable) (h : Int) (c q : Nat) : L2.nth t.mask (pr t h c) q = pr t h (c + q) := (L2.nth_add t.mask c _ q).symm
theorem nth_plain (m : Nat) : ∀ (n : Nat) (p : SetTable.Probe), p.dummy = none → (L2.nth m p n).dummy = none
  | 0, _, h => h
  | n + 1, p, h => nth_plain m n _ (by
    unfold L2.adv
    split <;> exact h)
section
variable {P : Program} {w : World} {A : Around} {E : Value → Shared → Prop} {s : Shared} {T : Type} [DecidableEq T] {knd : HeapKind P w T} {B : Prop} {a : Addr} {L : List (Addr × T)} {es : Array (Int × Value)} {ep : Nat} {t : SetTable}
/-- from the c-th state on: nothing equal was passed -/
theorem seek_from (R : Set_ knd B s.heap a L es ep t) {p : Addr × T} (x : Ent knd s.heap p) (hr : knd.room A) {adding : Bool} {K : Nat} (hK : K < 10 * SetTable.turns t.mask) (gap : L2.way t.mask (knd.hash p.2) K ∉ t.place.toList)
    (full : ∀ c, c < K → L2.way t.mask (knd.hash p.2) c ∈ t.place.toList) {Q : SetFound → Shared → Prop} (yes : p.2 ∈ L.map (·.2) → ∀ o, (adding = false → o.isSome = true) → Q (.there o) s) (no : p.2 ∉ L.map (·.2) → Q (.free (L2.way t.mask (knd.hash p.2) K) false) s) :
    ∀ (f c : Nat) (stand : Option SetTable.Probe), stand.getD (t.probeStart (knd.hash p.2)) = pr t (knd.hash p.2) c → c ≤ K → K - c < f →
      (∀ (i : Nat) q, L[i]? = some q → q.2 = p.2 → ∀ b, b < c → t.place.toList[i]? ≠ some (L2.way t.mask (knd.hash p.2) b)) → wpAny (model P w) A (setSearchFrom a (.ref p.1) (knd.hash p.2) adding f stand) Q E s
  | 0, c, stand, _, _, hf, _ => absurd hf (Nat.not_lt_zero _)
  | f + 1, c, stand, hst, hc, hf, passed => by
    obtain ⟨o, ho, hex, hd⟩ := R.ob
    rw [L2.setSearchFrom_succ]
    refine wpAny_bind (wpAny_setState_of ho hd R.fits ?_)
    dsimp only
    refine L2.wp_if_neg R.odd ?_
    try refine wpAny_bind (wpAny_pure ?_)
    have hash_at : ∀ {i : Nat} {q : Addr × T}, L[i]? = some q → (fun i => (es[i]?.map (·.1)).getD 0) i = knd.hash q.2 := fun {i q} hq => by
      show (es[i]?.map fun e => e.1).getD 0 = _
      rw [R.at_ hq]
      rfl
    have entry : ∀ {i j : Nat}, t.place.toList[i]? = some j → ∃ q, L[i]? = some q := fun {i j} hi => by
      have h1 := (List.getElem?_eq_some_iff.mp hi).1
      rw [R.psize] at h1
      exact ⟨_, List.getElem?_eq_getElem h1⟩
    have spec := L2.go_spec t R.tab.up R.tab.dm (fun i => (es[i]?.map (·.1)).getD 0) (knd.hash p.2) (10 * SetTable.turns t.mask) (K - c) (pr t (knd.hash p.2) c) (nth_plain _ _ _ rfl) (by omega)
      (fun q hq => by rw [pr_add, pr_way]; exact full (c + q) (by omega)) (by rw [pr_add, pr_way, show c + (K - c) = K by omega]; exact gap)
    have probe_eq : t.probe (fun i => (es[i]?.map (·.1)).getD 0) (knd.hash p.2) (stand.getD (t.probeStart (knd.hash p.2))) = SetTable.probe.go t (fun i => (es[i]?.map (·.1)).getD 0) (knd.hash p.2) (10 * SetTable.turns t.mask) (pr t (knd.hash p.2) c) := by
      rw [hst]
      rfl
    rcases spec with ⟨q, i, hq, hi, hh, before, met⟩ | ⟨before, met⟩
    · rw [probe_eq, met]
      dsimp only
      rw [pr_add, pr_way] at hi
      obtain ⟨u, hu⟩ := entry hi
      have um : u ∈ L := List.mem_of_getElem? hu
      have rest : wpAny (model P w) A (L2.searchRest a (.ref p.1) (knd.hash p.2) adding f es t (L2.nth t.mask (pr t (knd.hash p.2) c) q).j i (L2.nth t.mask (pr t (knd.hash p.2) c) (q + 1))) Q E s := by
        rw [pr_add, pr_add, pr_way]
        unfold L2.searchRest
        rw [R.at_ hu]
        dsimp only
        refine wpAny_bind (wpAny_holding (knd.eqBool hr (R.ent u um).is x.is ?_))
        refine wpAny_bind (wpAny_setState_of ho hd R.fits ?_)
        dsimp only
        have sl : t.slot (L2.way t.mask (knd.hash p.2) (c + q)) = .live i := L2.slot_live R.tab.up hi
        by_cases hk : u.2 = p.2
        · have mem : p.2 ∈ L.map (·.2) := List.mem_map.mpr ⟨u, um, hk⟩
          cases adding with
          | true =>
            refine L2.wp_if_pos (by simp [hk]) ?_
            exact wpAny_pure (yes mem none (fun z => by cases z))
          | false =>
            refine L2.wp_if_neg (by simp) ?_
            try refine wpAny_bind (wpAny_pure ?_)
            rw [L2.sameMem]
            dsimp only
            simp only [if_true, sl, R.at_ hu]
            refine wpAny_bind (wpAny_isSame_ref_self (wpAny_bind (wpAny_pure ?_)))
            simp only [if_true]
            refine L2.wp_if_pos (by simp [hk]) ?_
            exact wpAny_pure (yes mem _ (fun _ => rfl))
        · refine L2.wp_if_neg (by simp [hk]) ?_
          try refine wpAny_bind (wpAny_pure ?_)
          rw [L2.sameMem]
          dsimp only
          simp only [if_true, sl, R.at_ hu]
          refine wpAny_bind (wpAny_isSame_ref_self (wpAny_bind (wpAny_pure ?_)))
          simp only [if_true]
          refine L2.wp_if_neg (by simp [hk]) ?_
          refine seek_from R x hr hK gap full yes no f (c + (q + 1)) _ rfl (by omega) (by omega) fun i0 q0 h0 hk0 b hb hp => ?_
          rcases Nat.lt_trichotomy b (c + q) with z | z | z
          · by_cases z2 : b < c
            · exact passed i0 q0 h0 hk0 b z2 hp
            · refine before (b - c) i0 (by omega) ?_ ((hash_at h0).trans (congrArg knd.hash hk0))
              rw [pr_add, pr_way, show c + (b - c) = b by omega]
              exact hp
          · rw [z] at hp
            have s2 := L2.slot_live R.tab.up hp
            rw [sl] at s2
            injection s2 with s2
            rw [← s2, hu] at h0
            cases h0
            exact hk hk0
          · omega
      by_cases hl : t.led = true
      · refine L2.wp_if_neg (by simp [hl]) ?_
        try refine wpAny_bind (wpAny_pure ?_)
        exact rest
      · refine L2.wp_if_pos (by simp [hl]) ?_
        refine wpAny_bind (unseen x (fun y hy => ?_) ?_)
        · obtain ⟨e, he, ee⟩ := List.mem_map.mp hy
          have he2 : e ∈ es.toList := by
            have : e ∈ es ∧ e.1 = knd.hash p.2 := by simpa using he
            simpa using this.1
          rw [R.rows] at he2
          obtain ⟨z, hz, e2⟩ := List.mem_map.mp he2
          refine ⟨z, ?_, R.ent z hz⟩
          rw [← ee, ← e2]
        · refine L2.wp_if_neg (by decide) ?_
          try refine wpAny_bind (wpAny_pure ?_)
          exact rest
    · rw [probe_eq, met]
      dsimp only
      rw [pr_add, pr_way, show c + (K - c) = K by omega]
      refine wpAny_pure (no fun hm => ?_)
      obtain ⟨u, um, hk⟩ := List.mem_map.mp hm
      obtain ⟨i, hi, e⟩ := List.getElem_of_mem um
      have hu : L[i]? = some u := by rw [List.getElem?_eq_getElem hi, e]
      have hpi : i < t.place.toList.length := by rw [R.psize]; exact hi
      have hj := List.getElem?_eq_getElem hpi
      obtain ⟨k, hk1, hk2⟩ := R.tab.near gap (i := i) (h := knd.hash p.2) (j := t.place.toList[i]) (by rw [List.getElem?_map, hu, ← hk]; rfl) hj
      rw [← hk2] at hj
      by_cases z : k < c
      · exact passed i u hu hk k z hj
      · refine before (k - c) i (by omega) ?_ ((hash_at hu).trans (congrArg knd.hash hk))
        rw [pr_add, pr_way, show c + (k - c) = k by omega]
        exact hj
theorem seek (R : Set_ knd B s.heap a L es ep t) {p : Addr × T} (x : Ent knd s.heap p) (hr : knd.room A) {adding : Bool} {Q : SetFound → Shared → Prop} (yes : p.2 ∈ L.map (·.2) → ∀ o, (adding = false → o.isSome = true) → Q (.there o) s)
    (no : ∀ K, p.2 ∉ L.map (·.2) → L2.way t.mask (knd.hash p.2) K ∉ t.place.toList → (∀ c, c < K → L2.way t.mask (knd.hash p.2) c ∈ t.place.toList) → Q (.free (L2.way t.mask (knd.hash p.2) K) false) s) :
    wpAny (model P w) A (setSearch a (.ref p.1) (knd.hash p.2) adding) Q E s := by
  have room := R.room
  obtain ⟨K, k1, k2, k3⟩ := R.tab.gap (by rw [List.length_map]; omega) (knd.hash p.2)
  have big : 10 * SetTable.turns t.mask ≤ 5260 := by
    have := R.tab.fu.le
    unfold SetTable.turns
    omega
  unfold setSearch
  exact seek_from R x hr k1 k2 k3 yes (fun n => no K n k2 k3) 100000 0 none rfl (Nat.zero_le _) (by omega) fun i q _ _ b hb => absurd hb (Nat.not_lt_zero _)
end
end SA
/-! one comes in -/
namespace SA
open PySem PySem.Spec PyProof.Rows
/-- the key stays where a set is written -/
def KeepS {P : Program} {w : World} {T : Type} [DecidableEq T] (knd : HeapKind P w T) : Prop := ∀ {h h' : Heap} {k : T} {b a : Addr} {o : Obj} {es : Array (Int × Value)} {ep : Nat} {t : SetTable}, knd.is h k b → h.get? a = some o → o.data = .set es ep t → Heap.SameBut a h h' → knd.is h' k b
theorem fm_map {α β : Type} (g : α → β) (f : Nat → Option α) : ∀ l : List Nat, l.filterMap (fun i => (f i).map g) = (l.filterMap f).map g
  | [] => rfl
  | i :: l => by
    have ih := fm_map g f l
    cases q : f i with
    | none => rw [List.filterMap_cons_none (by rw [q]; rfl), List.filterMap_cons_none q, ih]
    | some x => rw [List.filterMap_cons_some (by rw [q]; rfl), List.filterMap_cons_some q, List.map_cons, ih]
theorem fm_range {α : Type} (L : List α) : (List.range L.length).filterMap (fun i => L[i]?) = L := by
  induction L with
  | nil => rfl
  | cons x L ih =>
    rw [List.length_cons, List.range_succ_eq_map, List.filterMap_cons_some (b := x) (by rfl), List.filterMap_map]
    congr 1
section
variable {P : Program} {w : World} {A : Around} {E : Value → Shared → Prop} {s : Shared} {T : Type} [DecidableEq T] {knd : HeapKind P w T} {B : Prop} {a : Addr} {L : List (Addr × T)} {es : Array (Int × Value)} {ep : Nat} {t : SetTable}
theorem Ent.write (ks : KeepS knd) {h h' : Heap} {p : Addr × T} {o : Obj} (x : Ent knd h p) (ho : h.get? a = some o) (hd : o.data = .set es ep t) (sb : Heap.SameBut a h h') : Ent knd h' p := by
  refine ⟨ks x.is ho hd sb, x.fl.keep fun o' e => (sb.2 p.1 fun z => ?_).trans e⟩
  obtain ⟨ob, items, n, e2, _, d2, _⟩ := x.fl
  rw [z, ho] at e2
  cases e2
  rw [hd] at d2
  cases d2
theorem rows_size {L : List (Addr × T)} (hr : es.toList = rowsS knd L) : es.size = L.length := by
  have := congrArg List.length hr
  simpa [rowsS] using this
theorem rows_get {L : List (Addr × T)} (hr : es.toList = rowsS knd L) (i : Nat) : es[i]? = (L[i]?).map fun p => (knd.hash p.2, Value.ref p.1) := by
  rw [← Array.getElem?_toList, hr]
  simp [rowsS]
/-- the rows in another order -/
theorem shuffle {L : List (Addr × T)} (hr : es.toList = rowsS knd L) {order : Array Nat} (hp : order.toList.Perm (List.range L.length)) :
    ∃ L2, (order.filterMap (es[·]?)).toList = rowsS knd L2 ∧ L2.Perm L ∧ (L2.map fun p => knd.hash p.2) = order.toList.map fun i => (es.map (·.1)).getD i 0 := by
  refine ⟨order.toList.filterMap fun i => L[i]?, ?_, ?_, ?_⟩
  · rw [Array.toList_filterMap]
    have : (fun i : Nat => es[i]?) = fun i => (L[i]?).map fun p => (knd.hash p.2, Value.ref p.1) := funext (rows_get hr)
    rw [this]
    exact fm_map _ _ _
  · have := hp.filterMap fun i => L[i]?
    rw [fm_range] at this
    exact this
  · have hlt : ∀ i ∈ order.toList, i < L.length := fun i hi => List.mem_range.mp (hp.mem_iff.mp hi)
    generalize order.toList = l at hlt
    induction l with
    | nil => rfl
    | cons i l ih =>
      have hi := hlt i (by simp)
      rw [List.filterMap_cons_some (List.getElem?_eq_getElem hi), List.map_cons, List.map_cons, ih fun j hj => hlt j (List.mem_cons_of_mem _ hj)]
      congr 1
      rw [Array.getD_eq_getD_getElem?, Array.getElem?_map, rows_get hr, List.getElem?_eq_getElem hi]
      rfl
theorem relay {o : Obj} (ks : KeepS knd) (ho : s.heap.get? a = some o) (hex : o.ExactSet) (hd : o.data = .set es ep t) (hr : es.toList = rowsS knd L) (T0 : Tb t (L.map fun p => knd.hash p.2)) (lo : L.length ≤ t.mask) (nd : (L.map (·.2)).Nodup) (ent : ∀ p ∈ L, Ent knd s.heap p)
    (pl : t.plain = true) (ld : B → w.params.followText "set-order" = true ∨ t.led = true) {wanted M : Nat} (hw : SetTable.sizeAbove wanted - 1 = M) (f : Full M) (hw2 : SetTable.sizeAbove wanted ≤ 512) (hn : L.length * 5 < M * 3) {Q : Unit → Shared → Prop}
    (hQ : ∀ h' L' es' ep' t', Heap.SameBut a s.heap h' → Set_ knd B h' a L' es' ep' t' → L'.Perm L → Q () { s with heap := h' }) : wpAny (model P w) A (setRelay a wanted) Q E s := by
  have sz := rows_size hr
  have psz : t.place.size = L.length := by
    have := T0.sz
    simpa using this
  have fits : t.fits es.size = true := by
    unfold SetTable.fits SetTable.fill
    rw [T0.dm, Bool.and_eq_true, beq_iff_eq, decide_eq_true_eq]
    exact ⟨by omega, by show t.place.size + 0 ≤ t.mask; omega⟩
  obtain ⟨t', order, e, hp, T1, em, el, epl⟩ := anew t (hs := es.map (·.1)) hw f (by rw [Array.size_map]; omega)
  rw [Array.size_map, sz] at hp
  obtain ⟨N2, r1, r2, r3⟩ := shuffle hr hp
  rw [← r3] at T1
  have sz2 : (order.filterMap (es[·]?)).size = es.size := by
    rw [rows_size r1, r2.length_eq, sz]
  rw [L2.setRelay_eq]
  refine wpAny_bind (wpAny_setState_of ho hd fits ?_)
  dsimp only
  refine L2.wp_if_neg (by rw [sizeLine_eq]; omega) ?_
  try refine wpAny_bind (wpAny_pure ?_)
  rw [e]
  dsimp only
  refine wpAny_bind ?_
  refine L2.wp_if_neg (by rw [sz2]; simp) ?_
  try refine wpAny_bind (wpAny_pure ?_)
  refine wpAny_pure ?_
  dsimp only
  refine wpAny_storeSet_of ho hd ?_ (by rw [sz2, sz, sizeLine_eq]; have := f.le; omega)
  have sb : Heap.SameBut a s.heap (s.heap.update a (Obj.putSet (order.filterMap (es[·]?)) t')) := Heap.SameBut.update ..
  refine hQ _ N2 _ (ep + 1) t' sb ⟨⟨_, L2.store_at ho hd, ⟨hex.1, hex.2.1, hex.2.2⟩, rfl⟩, r1, T1, ?_, fun p hp2 => (ent p (r2.mem_iff.mp hp2)).write ks ho hd sb, epl ▸ pl, by rw [el]; exact ld, ?_⟩ r2
  · exact (r2.map (·.2)).nodup_iff.mpr nd
  · rw [r2.length_eq, em]
    exact hn
/-- x is put in -/
theorem add (ks : KeepS knd) (R : Set_ knd B s.heap a L es ep t) {p : Addr × T} (x : Ent knd s.heap p) (hr : knd.room A) (few : L.length + 1 ≤ 300) {Q : Bool → Shared → Prop}
    (hQ : ∀ b h' L' es' ep' t', Heap.SameBut a s.heap h' → Set_ knd B h' a L' es' ep' t' → (p.2 ∈ L.map (·.2) → L' = L) → (p.2 ∉ L.map (·.2) → L'.Perm (p :: L)) → Q b { s with heap := h' }) :
    wpAny (model P w) A (setAddHashed a (.ref p.1) (knd.hash p.2)) Q E s := by
  obtain ⟨o, ho, hex, hd⟩ := R.ob
  have sz := R.size
  have room := R.room
  unfold setAddHashed
  refine wpAny_holding ?_
  rw [show (100000 : Nat) = 99999 + 1 from rfl, L2.setAddHashedIn_succ]
  refine wpAny_bind (wpAny_setState_of ho hd R.fits ?_)
  dsimp only
  refine L2.wp_if_neg (by simp [byScan, Value.scannable]) ?_
  try refine wpAny_bind (wpAny_pure ?_)
  refine wpAny_bind (seek R x hr (fun hm o' _ => ?_) fun K hm gap full => ?_)
  · dsimp only
    exact wpAny_pure (hQ false s.heap L es ep t (Heap.SameBut.refl a s.heap) R (fun _ => rfl) fun z => absurd hm z)
  · dsimp only
    refine wpAny_bind (wpAny_setState_of ho hd R.fits ?_)
    dsimp only
    obtain ⟨i, hi⟩ : ∃ i, SetTable.below t.place (L2.way t.mask (knd.hash p.2) K) = i := ⟨_, rfl⟩
    obtain ⟨q1, q2, q3⟩ := R.tab.ins gap full hi
    have q1 : i ≤ L.length := by simpa using q1
    have hs : (L.map fun p => knd.hash p.2).take i ++ knd.hash p.2 :: (L.map fun p => knd.hash p.2).drop i = (L.take i ++ p :: L.drop i).map fun p => knd.hash p.2 := by simp
    rw [hs] at q3
    have m1 : (t.put (L2.way t.mask (knd.hash p.2) K)).1.mask = t.mask := rfl
    have l1 : (t.put (L2.way t.mask (knd.hash p.2) K)).1.led = t.led := rfl
    have p1 : (t.put (L2.way t.mask (knd.hash p.2) K)).1.plain = true := R.plain
    generalize t.put (L2.way t.mask (knd.hash p.2) K) = pt at q2 q3 m1 l1 p1 ⊢
    obtain ⟨t1, i'⟩ := pt
    dsimp only at q2 q3 m1 l1 p1 ⊢
    subst q2
    first
      | (refine wpAny_bind ?_; refine L2.wp_if_pos p1 ?_; refine flat_hashBy x.fl ?_)
      | refine L2.wp_if_pos p1 (wpAny_bind (flat_hashBy x.fl ?_))
    simp only [if_true]
    have pm : (L.take i' ++ p :: L.drop i').Perm (p :: L) := by
      have := List.perm_middle (a := p) (l₁ := L.take i') (l₂ := L.drop i')
      rwa [List.take_append_drop] at this
    have r1 : (SetTable.insertAt es i' (knd.hash p.2, Value.ref p.1)).toList = rowsS knd (L.take i' ++ p :: L.drop i') := by
      rw [SetTable.toList_insertAt, R.rows]
      simp [rowsS]
    generalize L.take i' ++ p :: L.drop i' = L1 at q3 pm r1
    generalize SetTable.insertAt es i' (knd.hash p.2, Value.ref p.1) = es1 at r1 ⊢
    have len1 : L1.length = L.length + 1 := pm.length_eq
    have sz1 := rows_size r1
    have nd1 : (L1.map (·.2)).Nodup := by
      refine (pm.map (·.2)).nodup_iff.mpr ?_
      rw [List.map_cons]
      exact List.nodup_cons.mpr ⟨hm, R.nd⟩
    refine wpAny_bind (wpAny_storeSet_of ho hd ?_ (by rw [sz1, len1, sizeLine_eq]; omega))
    have sb : Heap.SameBut a s.heap (s.heap.update a (Obj.putSet es1 t1)) := Heap.SameBut.update ..
    have ho1 := L2.store_at (es' := es1) (t' := t1) ho hd
    generalize s.heap.update a (Obj.putSet es1 t1) = h1 at sb ho1 ⊢
    have ent1 : ∀ q ∈ L1, Ent knd h1 q := fun q hq => by
      rcases List.mem_cons.mp (pm.mem_iff.mp hq) with rfl | hq
      · exact x.write ks ho hd sb
      · exact (R.ent q hq).write ks ho hd sb
    have ld1 : B → w.params.followText "set-order" = true ∨ t1.led = true := by rw [l1]; exact R.led
    have fill : t1.fill = L.length + 1 := by
      have h1 := q3.sz
      rw [Array.length_toList, List.length_map] at h1
      unfold SetTable.fill
      rw [q3.dm, h1, len1]
      rfl
    by_cases hf : t1.tooFull = true
    · first
        | (refine wpAny_bind ?_; refine L2.wp_if_pos (by simp [hf]) ?_)
        | (refine L2.wp_if_pos (by simp [hf]) ?_; refine wpAny_bind ?_)
      have hfull : (L.length + 1) * 5 ≥ t.mask * 3 := by
        have h := hf
        unfold SetTable.tooFull at h
        rw [decide_eq_true_eq, fill, m1] at h
        exact h
      rw [sz]
      have go : ∀ M, SetTable.sizeAbove (SetTable.grown (L.length + 1)) - 1 = M → Full M → SetTable.sizeAbove (SetTable.grown (L.length + 1)) ≤ 512 → (L.length + 1) * 5 < M * 3 →
          wpAny (model P w) A (setRelay a (SetTable.grown (L.length + 1))) (fun _ s' => wpAny (model P w) A (pure true) Q E s') E { s with heap := h1 } := fun M a1 a2 a3 a4 => by
        refine relay (s := { s with heap := h1 }) ks ho1 ⟨hex.1, hex.2.1, hex.2.2⟩ rfl r1 q3 (by rw [len1, m1]; omega) nd1 ent1 p1 ld1 a1 a2 a3 (by rw [len1]; exact a4) ?_
        intro h2 L3 es2 ep2 t2 sb2 R2 pm2
        exact wpAny_pure (hQ true h2 L3 es2 ep2 t2 (sb.trans sb2) R2 (fun z => absurd z hm) fun _ => pm2.trans pm)
      rcases R.tab.fu.msk with e | e | e | e
      · have e2 : L.length = 4 := by rw [e] at hfull room; omega
        exact go 31 (by rw [e2, grow5]) full31 (by rw [e2, grow5]; decide) (by omega)
      · have e2 : L.length = 18 := by rw [e] at hfull room; omega
        exact go 127 (by rw [e2, grow19]) full127 (by rw [e2, grow19]; decide) (by omega)
      · have e2 : L.length = 76 := by rw [e] at hfull room; omega
        exact go 511 (by rw [e2, grow77]) full511 (by rw [e2, grow77]; decide) (by omega)
      · rw [e] at hfull
        omega
    · first
        | refine L2.wp_if_neg (by simp [hf]) ?_
        | (refine wpAny_bind ?_; refine L2.wp_if_neg (by simp [hf]) ?_; refine wpAny_pure ?_)
      refine wpAny_pure (hQ true h1 L1 es1 (ep + 1) t1 sb ⟨⟨_, ho1, ⟨hex.1, hex.2.1, hex.2.2⟩, rfl⟩, r1, q3, nd1, ent1, p1, ld1, ?_⟩ (fun z => absurd z hm) fun _ => pm)
      have h := hf
      unfold SetTable.tooFull at h
      rw [decide_eq_true_eq, fill] at h
      omega
end
end SA
/-! set(t) of a tuple of flat tuples -/
namespace SA
open PySem PySem.Spec PyProof.Rows
/-- what the first i items gave -/
structure Took {T : Type} (ks : List (Addr × T)) (i : Nat) (L : List (Addr × T)) : Prop where
  sub : ∀ p ∈ L, p ∈ ks.take i
  all : ∀ p ∈ ks.take i, p.2 ∈ L.map (·.2)
  len : L.length ≤ i
theorem Took.next {T : Type} {ks L L' : List (Addr × T)} {i : Nat} {p : Addr × T} (g : Took ks i L) (h : ks[i]? = some p) (c1 : p.2 ∈ L.map (·.2) → L' = L) (c2 : p.2 ∉ L.map (·.2) → L'.Perm (p :: L)) : Took ks (i + 1) L' := by
  have e : ks.take (i + 1) = ks.take i ++ [p] := by
    rw [List.take_add_one, h]
    rfl
  rcases Classical.em (p.2 ∈ L.map (·.2)) with m | m
  · rw [c1 m]
    refine ⟨fun q hq => ?_, fun q hq => ?_, Nat.le_succ_of_le g.len⟩
    · rw [e]
      exact List.mem_append_left _ (g.sub q hq)
    · rw [e] at hq
      rcases List.mem_append.mp hq with z | z
      · exact g.all q z
      · rw [List.mem_singleton.mp z]
        exact m
  · have pm := c2 m
    refine ⟨fun q hq => ?_, fun q hq => ?_, ?_⟩
    · rw [e]
      rcases List.mem_cons.mp (pm.mem_iff.mp hq) with rfl | z
      · exact List.mem_append_right _ (by simp)
      · exact List.mem_append_left _ (g.sub q z)
    · rw [(pm.map (·.2)).mem_iff, List.map_cons]
      rw [e] at hq
      rcases List.mem_append.mp hq with z | z
      · exact List.mem_cons_of_mem _ (g.all q z)
      · rw [List.mem_singleton.mp z]
        exact List.mem_cons_self
    · rw [pm.length_eq]
      exact Nat.succ_le_succ g.len
section
variable {P : Program} {w : World} {A : Around} {E : Value → Shared → Prop} {s : Shared} {T : Type} [DecidableEq T] {knd : HeapKind P w T} {B : Prop}
/-- the key stays where more stands -/
def KeepU (knd : HeapKind P w T) : Prop := ∀ {h h' : Heap} {k : T} {b : Addr}, knd.is h k b → (∀ c o, h.get? c = some o → h'.get? c = some o) → knd.is h' k b
theorem Ent.up (ku : KeepU knd) {h h' : Heap} {p : Addr × T} (x : Ent knd h p) (k : ∀ c o, h.get? c = some o → h'.get? c = some o) : Ent knd h' p := ⟨ku x.is k, x.fl.keep fun o e => k _ o e⟩
theorem Set_.stay {h h' : Heap} {a : Addr} {L : List (Addr × T)} {es : Array (Int × Value)} {ep : Nat} {t : SetTable} (R : Set_ knd B h a L es ep t) (ha : ∀ o, h.get? a = some o → h'.get? a = some o) (ht : ∀ p ∈ L, Ent knd h' p) : Set_ knd B h' a L es ep t := by
  obtain ⟨o, ho, r⟩ := R.ob
  exact ⟨⟨o, ha o ho, r⟩, R.rows, R.tab, R.nd, ht, R.plain, R.led, R.room⟩
abbrev newS (w : World) : Obj := { cls := .type "set", dict := none, data := .set #[] 0 (.fresh 0 0 (!w.params.followText "set-order")) }
theorem set_new {h : Heap} {a : Addr} (ho : h.get? a = some (newS w)) : Set_ knd B h a [] #[] 0 (.fresh 0 0 (!w.params.followText "set-order")) where
  ob := ⟨_, ho, ⟨rfl, rfl, rfl⟩, rfl⟩
  rows := rfl
  tab := ⟨List.Pairwise.nil, rfl, rfl, full7, fun x hx => absurd hx (by simp [SetTable.fresh]), fun i h j hi => absurd hi (by simp)⟩
  nd := List.nodup_nil
  ent := fun p hp => absurd hp (by simp)
  plain := rfl
  led := fun _ => by
    show _ ∨ (!w.params.followText "set-order") = true
    cases w.params.followText "set-order" <;> simp
  room := by
    show 0 * 5 < 7 * 3
    decide
/-- the loop of set's update -/
theorem upd_loop (ks : KeepS knd) (ku : KeepU knd) {I : Addr} {fp wr : List Addr} {G : Array GenState → Array GenState → Prop} {n : Nat} {Pv : Nat → Value → Prop} {St : Nat → Shared → Prop} {R : Result → Shared → Prop}
    (W : WalksS P w A.in1 I fp wr G n Pv St) (S : Addr) (hS : S ∉ fp) (xs : List (Addr × T)) (hn : n = xs.length) (few : xs.length < 300) (val : ∀ i v, Pv i v → ∃ p, xs[i]? = some p ∧ v = .ref p.1)
    (h0 : Heap) (ent : ∀ p ∈ xs, Ent knd h0 p) (hS0 : h0.get? S = none) (hw0 : ∀ b ∈ wr, h0.get? b = none) (hr : knd.room A.in1) :
    ∀ (k i : Nat) (s : Shared), n - i = k → i ≤ n → St i s → (∀ b o, h0.get? b = some o → s.heap.get? b = some o) → (∃ L es ep t, Set_ knd B s.heap S L es ep t ∧ Took xs i L) →
      (∀ s' L es ep t, Moved (S :: wr) G s s' → Set_ knd B s'.heap S L es ep t → Took xs n L → (∀ b o, h0.get? b = some o → s'.heap.get? b = some o) → R (.ok (.ret .none)) s') →
      codeAny (model P w) A (.builtin "set.update.loop" ⟨[.ref S, .ref I], []⟩) R s := by
  have hSw : S ∉ wr := fun h => hS (W.sub _ h)
  have sub1 : ∀ b ∈ wr, b ∈ S :: wr := fun b hb => List.mem_cons_of_mem _ hb
  have carry : ∀ {s s' : Shared}, Moved wr G s s' → (∀ b o, h0.get? b = some o → s.heap.get? b = some o) → ∀ b o, h0.get? b = some o → s'.heap.get? b = some o := fun hm z b o e =>
    hm.heap b o (fun hb => by have := hw0 b hb; rw [this] at e; cases e) (z b o e)
  intro k
  induction k with
  | zero =>
    intro i s hk hi hst hz ⟨L, es, ep, t, hset, g⟩ hR
    obtain rfl : i = n := by omega
    refine codeAny_builtin F.entry_set_update_loop ?_
    rw [Around.under_plainId F.plain_set_update_loop _]
    show wpAny _ A.in1 (pyNext (.ref I) >>= _) _ _ s
    refine wpAny_bind (W.done s _ _ hst fun s1 hm => ?_)
    have z1 := carry hm hz
    exact wpAny_pure (hR s1 L es ep t (hm.mono sub1) (hset.stay (fun o e => hm.heap S o hSw e) fun p hp => (ent p (List.mem_of_mem_take (g.sub p hp))).up ku z1) g z1)
  | succ k ih =>
    intro i s hk hi hst hz ⟨L, es, ep, t, hset, g⟩ hR
    have lt : i < n := by omega
    refine codeAny_builtin F.entry_set_update_loop ?_
    rw [Around.under_plainId F.plain_set_update_loop _]
    show wpAny _ A.in1 (pyNext (.ref I) >>= _) _ _ s
    refine wpAny_bind (W.item i s _ _ lt hst fun v s1 hv hst1 hm => ?_)
    obtain ⟨p, hp, rfl⟩ := val i v hv
    have z1 := carry hm hz
    have set1 : Set_ knd B s1.heap S L es ep t := hset.stay (fun o e => hm.heap S o hSw e) fun q hq => (ent q (List.mem_of_mem_take (g.sub q hq))).up ku z1
    have x1 : Ent knd s1.heap p := (ent p (List.mem_of_getElem? hp)).up ku z1
    show wpAny _ A.in1 (holding [Value.ref p.1] (setAdd S (.ref p.1)) >>= _) _ _ s1
    refine wpAny_bind (wpAny_holding ?_)
    unfold setAdd
    refine wpAny_holding (wpAny_bind (knd.pyHash hr x1.is ?_))
    refine add (s := { s1 with toks := s1.toks + knd.draws p.2 }) ks set1 x1 hr (by have := g.len; omega) fun b h' L' es' ep' t' sb set2 c1 c2 => ?_
    have z2 : ∀ b o, h0.get? b = some o → h'.get? b = some o := fun b o e => (sb.2 b (fun q => by rw [q, hS0] at e; cases e)).trans (z1 b o e)
    refine wpAny_pure ⟨plainId_quiet F.plain_set_update_loop _, ih (i + 1) _ (by omega) lt (W.frame _ s1 _ _ hst1 (Nat.le_add_right _ _) fun b hb o e => ?_) z2 ⟨L', es', ep', t', set2, g.next hp c1 c2⟩ fun s2 L2 es2 ep2 t2 hm2 set3 g2 z3 => ?_⟩
    · exact (sb.2 b fun q => hS (q ▸ hb)).trans e
    · refine hR s2 L2 es2 ep2 t2 (Moved.trans W.gtrans ((hm.mono sub1).then_heap (Nat.le_add_right _ _) fun b o hb e => ?_) hm2) set3 g2 z3
      exact (sb.2 b fun q => hb (by rw [q]; exact List.mem_cons_self)).trans e
end
end SA
/-! the call set(t) -/
namespace SA
open PySem PySem.Spec PyProof.Rows
section
variable {P : Program} {w : World} {A : Around} {E : Value → Shared → Prop} {s : Shared} {T : Type} [DecidableEq T] {knd : HeapKind P w T} {B : Prop}
theorem fresh_none {h : Heap} {b : Addr} (hb : h.objs.size ≤ b) : h.get? b = none := by
  cases q : h.get? b with
  | none => rfl
  | some o => exact absurd (Heap.lt_size q) (Nat.not_lt.mpr hb)
set_option maxHeartbeats 6400000 in
theorem call_set (ks : KeepS knd) (ku : KeepU knd) {l : Addr} {items : Array Value} (xs : List (Addr × T)) {Q : Value → Shared → Prop} (hh : A.handled = none) (hl : s.heap.IsTuple l items) (hit : items.toList = xs.map fun p => Value.ref p.1) (ent : ∀ p ∈ xs, Ent knd s.heap p) (few : xs.length < 300)
    (hr : knd.room A.in1.in1.in1)
    (h : ∀ (h' : Heap) (tk : Nat) L es ep t, Set_ knd B h' s.heap.objs.size L es ep t → Took xs xs.length L → (∀ b o, s.heap.get? b = some o → h'.get? b = some o) → Q (.ref s.heap.objs.size) { s with heap := h', toks := tk }) :
    wpAny (model P w) A (call (.type "set") [.ref l]) Q E s := by
  have isz : items.size = xs.length := by
    have := congrArg List.length hit
    simpa using this
  obtain ⟨c, tail, mro⟩ := F.called_set.mro
  have made := F.called_set.made; have subs := F.called_set.sub
  refine wpAny_call (codeAny_of_tree ?_); show wpAny _ _ (callAny (.type "set") _) _ _ _
  refine wpAny_pure ⟨Code.quiet_builtin _ (by decide +kernel), codeAny_builtin F.entry_type_call ?_⟩; rw [Around.under_plain (weight_type_call_type "set" [.ref l] []) rfl]
  have n1 := F.called_set.notType; have n2 := F.called_set.canCreate; have n3 := F.typeCall_set_1 (.ref l)
  repeat (any_goals (first | assumption | wp_step))

  refine codeAny_mono (L2.code_set_led1 (.ref l) (E := E) (Q₁ := fun v s1 => v = .ref s.heap.objs.size ∧ s1 = { s with heap := s.heap.push (newS w) }) ⟨rfl, rfl⟩) fun r s1 hr1 => ?_
  cases r with
  | error e => exact hr1
  | ok fl =>
    cases fl with
    | ret v =>
      obtain ⟨rfl, rfl⟩ := hr1
      have atS : (s.heap.push (newS w)).get? s.heap.objs.size = some (newS w) := Heap.get?_push_size _ rfl
      have tyS : Shared.TypeIs { s with heap := s.heap.push (newS w) } (.ref s.heap.objs.size) "set" := ⟨_, atS, rfl⟩
      have i1 := F.called_set.init.lookup; have i2 := F.called_set.init.bind (.ref s.heap.objs.size)
      repeat (any_goals (first | assumption | wp_step))

      refine codeAny_mono (codeAny_call_builtin (R := wants (fun r s2 => r = .none ∧ ∃ h' tk L es ep t, s2 = { s with heap := h', toks := tk } ∧ Set_ knd B h' s.heap.objs.size L es ep t ∧ Took xs xs.length L ∧ ∀ b o, s.heap.get? b = some o → h'.get? b = some o) E)
        F.called_set.init.plain F.entry_set_init (check_set_init_1 tyS ?_)) fun r2 s2 hr2 => ?_
      · obtain ⟨ol, hol, hcl, nl, hdl⟩ := hl
        obtain ⟨oc, od, odt, os⟩ := ol
        simp only at hcl hdl
        subst hcl hdl
        have atL : (s.heap.push (newS w)).get? l = some { cls := .type "tuple", dict := od, data := .seq items nl, slots := os } := Heap.get?_push_of_some _ hol
        have u1 := F.sub_tuple_set; have u2 := F.sub_tuple_frozenset
        have u3 : (Value.type "tuple" == Value.type "dict") = false := by decide
        have isT : (s.heap.push (newS w)).IsTuple l items := ⟨_, atL, rfl, nl, rfl⟩
        unfold Builtin.«set.__init__» noKeywords Builtin.Frozenset.updateFrom
        generalize hpi : pyIter = pi
        wp_walk
        subst hpi

        refine wpAny_pyIter_tuple isT (wpAny_bind (wpAny_runValue ?_))
        have ltL : l < s.heap.objs.size := Heap.lt_size hol
        have hh3 : A.in1.in1.in1.handled = none := by simp [hh]
        have szS : (s.heap.push (newS w)).objs.size = s.heap.objs.size + 1 := Heap.size_push ..
        have neI : l ≠ (s.heap.push (newS w)).objs.size := by
          rw [szS]
          exact Nat.ne_of_lt (Nat.lt_succ_of_lt ltL)
        have notin : s.heap.objs.size ∉ [(s.heap.push (newS w)).objs.size, l] := by
          rw [szS]
          simp only [List.mem_cons, List.not_mem_nil, or_false, not_or]
          exact ⟨Nat.ne_of_lt (Nat.lt_succ_self _), Nat.ne_of_gt ltL⟩
        have val : ∀ (i : Nat) (v : Value), items[i]? = some v → ∃ p, xs[i]? = some p ∧ v = .ref p.1 := fun i v hv => by
          have q : items.toList[i]? = some v := by rw [Array.getElem?_toList]; exact hv
          rw [hit, List.getElem?_map] at q
          obtain ⟨p, hp, e⟩ := Option.map_eq_some_iff.mp q
          exact ⟨p, hp, e.symm⟩
        refine upd_loop (B := B) ks ku ((Walks.tuple hh3 _ l neI items).toS) s.heap.objs.size notin xs isz few val s.heap ent (fresh_none (Nat.le_refl _)) (fun b hb => fresh_none (by rw [List.mem_singleton.mp hb, szS]; exact Nat.le_succ _)) hr (items.size - 0) 0 _ (by omega) (Nat.zero_le _)
          ⟨⟨_, Heap.get?_push_size _ rfl, rfl, rfl⟩, (isT.push _)⟩ (fun b o e => Heap.get?_push_of_some _ (Heap.get?_push_of_some _ e)) ?h0 ?h1
        case h0 => exact ⟨[], #[], 0, _, set_new (Heap.get?_push_of_some _ atS), ⟨fun p hp => absurd hp (by simp), fun p hp => absurd hp (by simp), Nat.le_refl _⟩⟩
        case h1 =>
          intro s3 L es ep t hm R3 g3 z3
          obtain ⟨h', g2, d', tk', os'⟩ := s3
          have eg : g2 = s.gens := hm.gens
          have ed : d' = s.drawn := hm.drawn
          have eo : os' = s.os := hm.os
          subst eg ed eo
          show wpAny _ _ _ _ _ _
          refine wpAny_pure ?_
          show wpAny _ _ (ret Value.none) _ _ _
          rw [isz] at g3
          exact wpAny_pure ⟨rfl, h', tk', L, es, ep, t, rfl, R3, g3, z3⟩

      · cases r2 with
        | error e => exact hr2
        | ok fl2 =>
          cases fl2 with
          | ret r =>
            obtain ⟨rfl, h', tk, L, es, ep, t, rfl, R3, g3, z3⟩ := hr2
            repeat (any_goals (first | assumption | wp_step))
            exact h _ _ _ _ _ _ R3 g3 z3
          | _ => exact hr2.elim
    | _ => exact hr1.elim
end
end SA
/-! nested keys: they stay; a set of flat tuples as an object of the layer -/
namespace SA
open PySem PySem.Spec PyProof.Rows
theorem keepS {P : Program} {w : World} : KeepS (nestedKind P w) := fun {h h' k b a o es ep t} x ho hd sb => ⟨NestedIs.at (fun c ob vs n hb hc => by
  refine (sb.2 c fun e => ?_).trans hb
  subst e
  rw [ho] at hb
  cases hb
  rw [hd] at hc
  cases hc) k _ x.1, x.2⟩
theorem keepU {P : Program} {w : World} : KeepU (nestedKind P w) := fun {h h' k b} x kk => ⟨NestedIs.at (fun c ob vs n hb hc => kk _ _ hb) k _ x.1, x.2⟩
abbrev NEnt := Addr × NestedKey
/-- the set at a, its tuples left out -/
structure St0 (P : Program) (w : World) (h : Heap) (a : Addr) (L : List NEnt) : Prop where
  ex : ∃ (es : Array (Int × Value)) (ep : Nat) (t : SetTable), (∃ o, h.get? a = some o ∧ o.ExactSet ∧ o.data = .set es ep t) ∧ es.toList = rowsS (nestedKind P w) L ∧ Tb t (L.map fun p => (nestedKind P w).hash p.2) ∧ t.plain = true ∧ L.length * 5 < t.mask * 3
/-- .. in any world -/
structure stP (a : Addr) (L : List NEnt) (h : Heap) : Prop where
  pl : ∀ p ∈ L, AU.nkPlain p.2 = true
  nd : (L.map (·.2)).Nodup
  st : ∀ (P : Program) (w : World), St0 P w h a L
def stO (a : Addr) (L : List NEnt) : L2.HO := .ext (stP a L)
theorem hash_any (P P' : Program) (w w' : World) {k : NestedKey} (h : AU.nkPlain k = true) : (nestedKind P w).hash k = (nestedKind P' w').hash k := AU.nk_hash w w' k h
theorem rows_any (P P' : Program) (w w' : World) : ∀ {L : List NEnt}, (∀ p ∈ L, AU.nkPlain p.2 = true) → rowsS (nestedKind P w) L = rowsS (nestedKind P' w') L := fun {L} h => List.map_congr_left fun p hp => by rw [hash_any P P' w w' (h p hp)]
theorem hashes_any (P P' : Program) (w w' : World) : ∀ {L : List NEnt}, (∀ p ∈ L, AU.nkPlain p.2 = true) → (L.map fun p => (nestedKind P w).hash p.2) = L.map fun p => (nestedKind P' w').hash p.2 := fun {L} h => List.map_congr_left fun p hp => hash_any P P' w w' (h p hp)
theorem stP_of {P : Program} {w : World} {B : Prop} {h : Heap} {a : Addr} {L : List NEnt} {es : Array (Int × Value)} {ep : Nat} {t : SetTable} (R : Set_ (nestedKind P w) B h a L es ep t) (pl : ∀ p ∈ L, AU.nkPlain p.2 = true) : stP a L h :=
  ⟨pl, R.nd, fun P' w' => ⟨es, ep, t, R.ob, by rw [R.rows]; exact rows_any P P' w w' pl, by rw [hashes_any P' P w' w pl]; exact R.tab, R.plain, R.room⟩⟩
theorem stP.set {P : Program} {w : World} {h : Heap} {a : Addr} {L : List NEnt} (x : stP a L h) (ent : ∀ p ∈ L, Ent (nestedKind P w) h p) : ∃ es ep t, Set_ (nestedKind P w) False h a L es ep t := by
  obtain ⟨es, ep, t, h1, h2, h3, h4, h5⟩ := (x.st P w).ex
  exact ⟨es, ep, t, h1, h2, h3, x.nd, ent, h4, fun z => z.elim, h5⟩
theorem stO_ok {P : Program} {w : World} {H : L2.Hp} {h : Heap} {a : Addr} {L : List NEnt} (x : stP a L h) : L2.ObjOk P w H h a (stO a L) := by
  refine ⟨x, ?_, fun h1 h2 p k => ⟨p.pl, p.nd, fun P' w' => ?_⟩⟩
  · obtain ⟨es, ep, t, ⟨o, e, _⟩, _⟩ := (x.st P w).ex
    exact ⟨o, e⟩
  · obtain ⟨es, ep, t, ⟨o, e, r⟩, q⟩ := (p.st P' w').ex
    exact ⟨es, ep, t, ⟨o, k _ e, r⟩, q⟩
end SA
/-! x in a set of flat tuples -/
namespace SA
open PySem PySem.Spec PyProof.Rows
section
variable {P : Program} {w : World} {A : Around} {E : Value → Shared → Prop} {s : Shared} {T : Type} [DecidableEq T] {knd : HeapKind P w T} {B : Prop} {a : Addr} {L : List (Addr × T)} {es : Array (Int × Value)} {ep : Nat} {t : SetTable}
theorem find (R : Set_ knd B s.heap a L es ep t) {p : Addr × T} (x : Ent knd s.heap p) (hr : knd.room A) {Q : Option Nat → Shared → Prop} (h : ∀ r : Option Nat, r.isSome = decide (p.2 ∈ L.map (·.2)) → Q r s) : wpAny (model P w) A (setFind a (.ref p.1) (knd.hash p.2)) Q E s := by
  obtain ⟨o, ho, hex, hd⟩ := R.ob
  unfold setFind
  rw [show (100000 : Nat) = 99999 + 1 from rfl]
  unfold setFindIn
  refine wpAny_bind (wpAny_setState_of ho hd R.fits ?_)
  dsimp only
  refine L2.wp_if_neg (by simp [byScan, Value.scannable]) ?_
  try refine wpAny_bind (wpAny_pure ?_)
  refine wpAny_bind (seek R x hr (adding := false) (fun hm o' ho' => ?_) fun K hm _ _ => ?_)
  · exact wpAny_pure (h o' (by rw [ho' rfl, decide_eq_true hm]))
  · exact wpAny_pure (h none (by rw [decide_eq_false hm]; rfl))
theorem Set_.ty (R : Set_ knd B s.heap a L es ep t) : s.TypeIs (.ref a) "set" := by
  obtain ⟨o, ho, hex, _⟩ := R.ob
  exact ⟨o, ho, hex.1⟩
theorem has (R : Set_ knd B s.heap a L es ep t) {p : Addr × T} (x : Ent knd s.heap p) (hr : knd.room A.in1) {Q : Bool → Shared → Prop} (h : Q (decide (p.2 ∈ L.map (·.2))) { s with toks := s.toks + knd.draws p.2 }) : wpAny (model P w) A (contains (.ref a) (.ref p.1)) Q E s := by
  unfold contains
  try with_reducible refine wpAny_holding ?_
  refine wpAny_bind (wpAny_specialOf R.ty F.slot_set_contains.lookup ?_)
  show wpAny _ _ (if (some (Value.builtin "set.__contains__") == some Value.none) = true then _ else _) _ E s
  rw [if_neg (by rw [beq_builtin_none]; exact Bool.false_ne_true)]
  refine wpAny_bind (wpAny_callSpecialUnlessNone?_slot (name := Str.ofString "__contains__") R.ty F.slot_set_contains (wpAny_call_entry F.slot_set_contains R.ty entry_set_contains ?_ (F.args_set_contains_2 _ _)))
  unfold Builtin.«frozenset.__contains__» Builtin.Frozenset.oneOther
  simp only [List.isEmpty_nil, bind_assoc]
  unfold Builtin.Frozenset.addrOf Builtin.Frozenset.withSetAsKey setContains
  refine wpAny_bind (wpAny_pure ?_)
  try dsimp only
  refine wpAny_bind (wpAny_pure ?_)
  try dsimp only
  refine wpAny_bind (wpAny_tryCatch (wpAny_holding (wpAny_bind (knd.pyHash hr x.is ?_))))
  refine wpAny_bind (find (s := { s with toks := s.toks + knd.draws p.2 }) R x hr fun r e => ?_)
  refine wpAny_pure ?_
  show wpAny _ _ (ret (Value.bool r.isSome)) _ _ _
  rw [e]
  exact wpAny_pure ⟨_, rfl, wpAny_truthy_bool h⟩
theorem in_set (R : Set_ knd B s.heap a L es ep t) {p : Addr × T} (x : Ent knd s.heap p) (hr : knd.room A.in1) {Q : Value → Shared → Prop} (h : Q (.bool (decide (p.2 ∈ L.map (·.2)))) { s with toks := s.toks + knd.draws p.2 }) : wpAny (model P w) A (compareOp .In (.ref p.1) (.ref a)) Q E s :=
  show wpAny _ _ (do return .bool (← contains (.ref a) (.ref p.1))) Q E s from wpAny_bind (has R x hr (wpAny_pure h))
theorem notin_set (R : Set_ knd B s.heap a L es ep t) {p : Addr × T} (x : Ent knd s.heap p) (hr : knd.room A.in1) {Q : Value → Shared → Prop} (h : Q (.bool (!decide (p.2 ∈ L.map (·.2)))) { s with toks := s.toks + knd.draws p.2 }) : wpAny (model P w) A (compareOp .NotIn (.ref p.1) (.ref a)) Q E s :=
  show wpAny _ _ (do return .bool (!(← contains (.ref a) (.ref p.1)))) Q E s from wpAny_bind (has R x hr (wpAny_pure h))
end
end SA
/-! sorted(set): the flat tuples of a set in their order -/
namespace SA
open PySem PySem.Spec PyProof.Rows L2 SrtO Srt AU
section
variable {P : Program} {w : World} {A : Around} {E : Value → Shared → Prop} {s : Shared} {T : Type} [DecidableEq T] {knd : HeapKind P w T} {a : Addr} {L : List (Addr × T)} {es : Array (Int × Value)} {ep : Nat} {t : SetTable}
theorem sorted_set (R : Set_ knd True s.heap a L es ep t) (hh : A.handled = none) (few : L.length ≤ 300) {sg : List Bool} {k : Value → List Int} {Q : Value → Shared → Prop} (hf : sg.head? = some false) (hp : ∀ p ∈ L, IsFlatT s.heap sg (.ref p.1) (k (.ref p.1)))
    (h : ∀ (s1 : Shared) (h' : Heap) (tk : Nat) (d : Addr) (vs out : List Value), s1.gens = s.gens → s1.os = s.os → vs.Perm (L.map fun p => Value.ref p.1) → Srtd (fun v u => lexL (cutK sg.length (k v)) (cutK sg.length (k u))) out → Stb (fun v u => lexL (cutK sg.length (k v)) (cutK sg.length (k u))) out vs → (∀ b o, s.heap.get? b = some o → s1.heap.get? b = some o) → (∀ b o, s1.heap.get? b = some o → h'.get? b = some o) → s1.heap.objs.size ≤ d → (∃ n, h'.get? d = some (seqObj "list" out.toArray n)) → Q (.ref d) { s1 with heap := h', toks := tk }) :
    wpAny (model P w) A (call (.builtin "sorted") [.ref a]) Q E s := by
  obtain ⟨o, ho, hex, hd⟩ := R.ob
  have sz := R.size
  have ev : es.toList.map (·.2) = L.map fun p => Value.ref p.1 := by
    rw [R.rows]
    simp [rowsS]
  refine Calls.call_function_entry PyProof.Rows.kind_sorted PyProof.Rows.plain_sorted PyProof.Rows.entry_sorted (PyProof.Rows.args_sorted1 _) ?_
  unfold Builtin.«sorted»
  refine wpAny_bind (m := checkCount "sorted" 1 1 _) (wpAny_pure ?_)
  refine wpAny_bind (collect_set (A := A.in1) hh ⟨o, ho, hex.1, hd⟩ R.fits (by unfold scanBound; omega) R.tab.up (R.led trivial) fun s1 vs kk kz kg ko pm => ?_)
  rw [ev] at pm
  have hz : vs.length ≤ sizeLine := by rw [pm.length_eq, List.length_map, sizeLine_eq]; omega
  have flat : ∀ v ∈ vs, IsFlatT s1.heap sg v (k v) := fun v hv => by
    obtain ⟨p, hpL, rfl⟩ := List.mem_map.mp (pm.mem_iff.mp hv)
    exact (hp p hpL).keeps fun b o e _ => kk b o e
  refine wpAny_bind (wpAny_newList ?_ hz)
  have hoL : (s1.heap.push (seqObj "list" vs.toArray 0)).get? s1.heap.objs.size = some (seqObj "list" vs.toArray 0) := Heap.get?_push_size _ rfl
  refine wpAny_bind (wpAny_holding (wpAny_call_entry PyProof.Rows.slot_list_sort ⟨_, hoL, rfl⟩ PyProof.Rows.entry_list_sort
    (list_sort_ord (s := { s1 with heap := s1.heap.push (seqObj "list" vs.toArray 0) }) (swo_cut sg.length k) hoL hz (fun h2 => ?_) fun out hs hb => ⟨_, rfl, ?_⟩)
    (PyProof.Rows.args_list_sort _)))
  · refine flats_sortable (s := { s1 with heap := s1.heap.push (seqObj "list" vs.toArray 0) }) hf (by omega) (fun v hm => (flat v hm).keeps fun b o e _ => Heap.get?_push_of_some _ e) fun o e => ?_
    have e' : some o = some (seqObj "list" vs.toArray 0) := e.symm.trans hoL
    cases e'
    intro c
    exact absurd (Value.type.inj c) (by decide)
  · obtain ⟨e', he'⟩ := PyProof.Rows.sortedHeap_at (vs := vs) (out := out.toArray) hoL
    refine wpAny_pure ⟨_, rfl, h s1 _ s1.toks _ vs out kg ko pm hs hb kk (fun b u e => ?_) (Nat.le_refl _) ⟨e', by simpa using he'⟩⟩
    have hb2 : b < s1.heap.objs.size := Heap.lt_size e
    rw [PyProof.Rows.sortedHeap_old (Nat.ne_of_lt hb2) (by rw [size_push']; exact Nat.lt_succ_of_lt hb2)]
    exact Heap.get?_push_of_some _ e
end
end SA
/-! set(t), x in set: rules of the layer -/
namespace SA
open PySem PySem.Spec PyProof.Rows L2 AU
/-- a key of a flat tuple -/
def flatK : NestedKey → Bool
  | .tup ks => ks.all fun k => match k with
    | .tup _ => false
    | .text _ => false
    | _ => true
  | _ => false
section
variable {X : Cx} {pins : List (Addr × Obj)} {σ : L2.St} {H : Hp} {s : Shared}
theorem flat_items {K : PySem.W.Frag} {H : Hp} : ∀ {xs : List V} {ks : List NestedKey} {us : List Value}, NkVs K H xs ks → (ks.all fun k => match k with
    | .tup _ => false
    | .text _ => false
    | _ => true) = true → Vals xs us → ∀ v ∈ us, flatV v = true
  | _, _, _, .nil, _, .nil, v, hv => by cases hv
  | _, _, _, .cons a b, f, .cons r t, v, hv => by
    rw [List.all_cons, Bool.and_eq_true] at f
    rcases List.mem_cons.mp hv with rfl | hv
    · cases a with
      | non => cases r; rfl
      | bl b => cases r; rfl
      | int i => obtain ⟨t, rfl⟩ := r; rfl
      | tup _ _ => simp at f
    · exact flat_items b f.2 t v hv
theorem ent_of (I : Inv X pins σ H s) {b : Addr} {k : NestedKey} (h : NkV X.K H (.ref b) k) (hd : k.depth ≤ 8) (f : flatK k = true) : Ent (nestedKind X.prog X.w) s.heap (b, k) := by
  refine ⟨⟨nkV_is I k h rfl, hd⟩, ?_⟩
  cases h with
  | tup h1 h2 =>
    obtain ⟨its, r, ⟨o, ho, hc, n, hdt⟩, _⟩ := I.tuple h1
    exact ⟨o, its.toArray, n, ho, hc, hdt, by
      intro v hv
      exact flat_items h2 f r v (by simpa using hv)⟩
/-- a flat entry, by the abstract heap -/
structure NE (K : PySem.W.Frag) (H : Hp) (p : NEnt) : Prop where
  nk : NkV K H (.ref p.1) p.2
  dp : p.2.depth ≤ 8
  fl : flatK p.2 = true
  pl : nkPlain p.2 = true
theorem ref_vals {ys : List NEnt} : ∀ {us : List Value}, Vals (ys.map fun y => V.ref y.1) us → us = ys.map fun y => Value.ref y.1 := by
  induction ys with
  | nil => intro us r; cases r; rfl
  | cons y ys ih =>
    intro us r
    cases r with
    | cons a b =>
      cases a
      rw [ih b]
      rfl
def rSet (K : PySem.W.Frag) : List V → Hp → VK → Prop := fun xs H Q => ∃ (l : Addr) (ys : List NEnt), xs = [V.ref l] ∧ SqT K H l (ys.map fun y => V.ref y.1) ∧ (∀ y ∈ ys, NE K H y) ∧ ys.length < 300 ∧
  ∀ a L o, H a = none → (∀ p ∈ L, p ∈ ys) → (∀ p ∈ ys, p.2 ∈ L.map (·.2)) → Q (.ref a) (upd H a (.frz o (stO a L)))
theorem call_setT (hc : X.calm = true) (hu : X.A.units + 64 < cLine) : CallR X (.type "set") (rSet X.K) := by
  intro pins s σ H xs us Q I r h
  obtain ⟨l, ys, rfl, hq, ne, few, q⟩ := h
  obtain ⟨u, rfl, rx⟩ := vals1 r
  cases rx
  obtain ⟨its, r2, ⟨o, ho, hcl, n, hdt⟩, _⟩ := I.tuple hq
  have e := ref_vals r2
  refine call_set (knd := nestedKind X.prog X.w) (B := False) keepS keepU ys (I.ok.hd hc) ⟨o, ho, hcl, n, hdt⟩ (by simpa using e) (fun p hp => ent_of I (ne p hp).nk (ne p hp).dp (ne p hp).fl) few ?_ fun h' tk L es ep t R g kk => ?_
  · show X.A.units + 1 + 1 + 1 + 8 < cLine
    omega
  · have sub : ∀ p ∈ L, p ∈ ys := fun p hp => List.mem_of_mem_take (g.sub p hp)
    obtain ⟨ob, hob, rr⟩ := R.ob
    have z := q s.heap.objs.size L ob (I.hok.fresh (Nat.le_refl _)) sub fun p hp => g.all p (by rw [List.take_length]; exact hp)
    exact ⟨.ref s.heap.objs.size, _, I.laid (t' := tk) (a := s.heap.objs.size) (o := .frz ob (stO s.heap.objs.size L)) (h' := h') kk (Nat.le_refl _) ⟨hob, stO_ok (stP_of R fun p hp => (ne p (sub p hp)).pl)⟩, rfl, z⟩
/-- x in s, x not in s -/
def rInS (K : PySem.W.Frag) (c : Bool) : R2 := fun x y H Q => ∃ (p : NEnt) (a : Addr) (L : List NEnt) (o : Obj), x = V.ref p.1 ∧ y = V.ref a ∧ NE K H p ∧ H a = some (.frz o (stO a L)) ∧ (∀ q ∈ L, NE K H q) ∧ Q (.bl (c != decide (p.2 ∈ L.map (·.2)))) H
theorem set_at {a : Addr} {L : List NEnt} {o : Obj} (I : Inv X pins σ H s) (e : H a = some (.frz o (stO a L))) (ne : ∀ q ∈ L, NE X.K H q) : ∃ es ep t, Set_ (nestedKind X.prog X.w) False s.heap a L es ep t := by
  have x : ObjOk X.prog X.w H s.heap a (.frz o (stO a L)) := I.hok a _ e
  have x2 : ObjOk X.prog X.w H s.heap a (stO a L) := x.2
  exact stP.set x2.1 fun p hp => ent_of I (ne p hp).nk (ne p hp).dp (ne p hp).fl
theorem op_inS (hu : X.A.units + 64 < cLine) : OpR X (compareOp .In) (rInS X.K false) := by
  intro pins s σ H x y v u Q I rx ry h
  obtain ⟨p, a, L, o, rfl, rfl, np, e, nl, q⟩ := h
  cases rx
  cases ry
  obtain ⟨es, ep, t, R⟩ := set_at I e nl
  refine in_set R (ent_of I np.nk np.dp np.fl) (show X.A.units + 1 + 8 < cLine by omega) ⟨_, H, I.tok _, ?_, q⟩
  rw [Bool.false_bne]
  rfl
theorem op_notinS (hu : X.A.units + 64 < cLine) : OpR X (compareOp .NotIn) (rInS X.K true) := by
  intro pins s σ H x y v u Q I rx ry h
  obtain ⟨p, a, L, o, rfl, rfl, np, e, nl, q⟩ := h
  cases rx
  cases ry
  obtain ⟨es, ep, t, R⟩ := set_at I e nl
  refine notin_set R (ent_of I np.nk np.dp np.fl) (show X.A.units + 1 + 8 < cLine by omega) ⟨_, H, I.tok _, ?_, q⟩
  rw [Bool.true_bne]
  rfl
end
end SA
/-! the data layer: what an expression gives, told of plain data -/
namespace AU
open PySem PySem.Spec PyProof.Rows L2

/-! ### data -/
inductive DD where
  | non | bl (b : Bool) | int (i : Int) | str (s : Str) | lst (xs : List DD) | tup (xs : List DD) | raw (v : V) | dct (ks vs : List DD) | set (ks : List DD)

mutual
def DD.py : DD → PyData
  | .non => .none
  | .bl b => .bool b
  | .int i => .int i
  | .str s => .str s
  | .lst xs => .list (DD.pyA xs)
  | .tup xs => .tuple (DD.pyA xs)
  | .raw _ => .none
  | .dct _ _ => .none
  | .set _ => .none
def DD.pyA : List DD → List PyData
  | [] => []
  | x :: xs => x.py :: DD.pyA xs
end
mutual
def DD.pure : DD → Bool
  | .lst xs => DD.pureA xs
  | .tup xs => DD.pureA xs
  | .raw _ => false
  | .dct _ _ => false
  | .set _ => false
  | _ => true
def DD.pureA : List DD → Bool
  | [] => true
  | x :: xs => x.pure && DD.pureA xs
end

mutual
/-- the key that stands for a datum -/
def nkD : DD → Option NestedKey
  | .non => some .none
  | .bl b => some (.num (if b = true then 1 else 0))
  | .int i => some (.num i)
  | .tup ds => (nkDs ds).map .tup
  | _ => none
def nkDs : List DD → Option (List NestedKey)
  | [] => some []
  | d :: ds => match nkD d, nkDs ds with
    | some k, some ks => some (k :: ks)
    | _, _ => none
end
def keyD : DD → Option NestedKey
  | .tup ds => match nkDs ds with
    | some ks => if (NestedKey.tup ks).depth ≤ 8 then some (.tup ks) else none
    | none => none
  | _ => none
mutual
inductive Rp (K : PySem.W.Frag) (F : Hp) : V → DD → Prop
  | non : Rp K F .non .non
  | bl (b : Bool) : Rp K F (.bl b) (.bl b)
  | int (i : Int) : Rp K F (.int i) (.int i)
  | str (x : Str) : Rp K F (.str x) (.str x)
  | lst {a : Addr} {xs : List V} {ds : List DD} : F a = some (.lst xs) → RpA K F xs ds → Rp K F (.ref a) (.lst ds)
  | tup {a : Addr} {xs : List V} {ds : List DD} : SqT K F a xs → RpA K F xs ds → Rp K F (.ref a) (.tup ds)
  | raw (v : V) : Rp K F v (.raw v)
  | dct {a : Addr} {o : Obj} {xs : List DEnt} {ks vs : List DD} : F a = some (.frz o (dxO a xs)) → RpA K F (xs.map fun x => V.ref x.2.1) ks → RpA K F (xs.map fun x => x.2.2) vs → ks.map keyD = xs.map (fun x => some x.1) → Rp K F (.ref a) (.dct ks vs)
  | set {a : Addr} {o : Obj} {L : List SA.NEnt} {ks : List DD} : F a = some (.frz o (SA.stO a L)) → (∀ p ∈ L, SA.NE K F p) → (∀ k, k ∈ L.map (·.2) ↔ some k ∈ ks.map keyD) → Rp K F (.ref a) (.set ks)
inductive RpA (K : PySem.W.Frag) (F : Hp) : List V → List DD → Prop
  | nil : RpA K F [] []
  | cons {v : V} {vs : List V} {d : DD} {ds : List DD} : Rp K F v d → RpA K F vs ds → RpA K F (v :: vs) (d :: ds)
end

section
variable {K : PySem.W.Frag} {F F' : Hp}
theorem sqT_same {a : Addr} {xs : List V} (e : Same F F') (h : SqT K F a xs) : SqT K F' a xs := by
  rcases h with (h | ⟨o, h⟩) | h
  · exact .inl (.inl (e _ _ h))
  · exact .inl (.inr ⟨o, e _ _ h⟩)
  · exact .inr h
mutual
theorem Rp.same (e : Same F F') : ∀ {v : V} (d : DD), Rp K F v d → Rp K F' v d
  | _, .non, h => by cases h; exact .non
  | _, .bl b, h => by cases h; exact .bl b
  | _, .int i, h => by cases h; exact .int i
  | _, .str x, h => by cases h; exact .str x
  | _, .lst ds, h => by
    cases h with
    | lst h1 h2 => exact .lst (e _ _ h1) (RpA.same e ds h2)
  | _, .tup ds, h => by
    cases h with
    | tup h1 h2 => exact .tup (sqT_same e h1) (RpA.same e ds h2)
  | _, .raw _, h => by cases h; exact .raw _
  | _, .dct ks vs, h => by
    cases h with
    | dct h1 h2 h3 h4 => exact .dct (e _ _ h1) (RpA.same e ks h2) (RpA.same e vs h3) h4
  | _, .set ks, h => by
    cases h with
    | set h1 h2 h3 => exact .set (e _ _ h1) (fun p hp => ⟨NkV.same e p.2 (h2 p hp).nk, (h2 p hp).dp, (h2 p hp).fl, (h2 p hp).pl⟩) h3
theorem RpA.same (e : Same F F') : ∀ {vs : List V} (ds : List DD), RpA K F vs ds → RpA K F' vs ds
  | _, [], h => by cases h; exact .nil
  | _, d :: ds, h => by
    cases h with
    | cons h1 h2 => exact .cons (Rp.same e d h1) (RpA.same e ds h2)
end
mutual
theorem Rp.dp : ∀ {v : V} (d : DD), d.pure = true → Rp K F v d → Dp K F v d.py
  | _, .non, _, h => by cases h; exact .non
  | _, .bl b, _, h => by cases h; exact .bl b
  | _, .int i, _, h => by cases h; exact .int i
  | _, .str x, _, h => by cases h; exact .str x
  | _, .lst ds, p, h => by
    cases h with
    | lst h1 h2 => exact .lst (SqL.of h1) (RpA.dp ds (by simpa [DD.pure] using p) h2)
  | _, .tup ds, p, h => by
    cases h with
    | tup h1 h2 => exact .tup h1 (RpA.dp ds (by simpa [DD.pure] using p) h2)
  | _, .raw v, p, _ => by simp [DD.pure] at p
  | _, .dct _ _, p, _ => by simp [DD.pure] at p
  | _, .set _, p, _ => by simp [DD.pure] at p
theorem RpA.dp : ∀ {vs : List V} (ds : List DD), DD.pureA ds = true → RpA K F vs ds → DpAll K F vs (DD.pyA ds)
  | _, [], _, h => by cases h; exact .nil
  | _, d :: ds, p, h => by
    simp only [DD.pureA, Bool.and_eq_true] at p
    cases h with
    | cons h1 h2 => exact .cons (Rp.dp d p.1 h1) (RpA.dp ds p.2 h2)
end
theorem RpA.length : ∀ {vs : List V} {ds : List DD}, RpA K F vs ds → vs.length = ds.length
  | _, _, .nil => rfl
  | _, _, .cons _ h => by simp [RpA.length h]
theorem RpA.get : ∀ {vs : List V} {ds : List DD} {i : Nat} {d : DD}, RpA K F vs ds → ds[i]? = some d → ∃ v, vs[i]? = some v ∧ Rp K F v d
  | _, _, i, _, .nil, h => by simp at h
  | _, _, 0, _, .cons h1 _, h => by
    simp at h
    subst h
    exact ⟨_, rfl, h1⟩
  | _, _, i + 1, _, .cons _ h2, h => by
    obtain ⟨v, e, r⟩ := RpA.get (i := i) h2 (by simpa using h)
    exact ⟨v, by simpa using e, r⟩
theorem RpA.get' : ∀ {vs : List V} {ds : List DD} {i : Nat} {v : V}, RpA K F vs ds → vs[i]? = some v → ∃ d, ds[i]? = some d ∧ Rp K F v d
  | _, _, i, _, .nil, h => by simp at h
  | _, _, 0, _, .cons h1 _, h => by
    simp at h
    subst h
    exact ⟨_, rfl, h1⟩
  | _, _, i + 1, _, .cons _ h2, h => by
    obtain ⟨v, e, r⟩ := RpA.get' (i := i) h2 (by simpa using h)
    exact ⟨v, by simpa using e, r⟩
theorem RpA.append : ∀ {vs ws : List V} {ds es : List DD}, RpA K F vs ds → RpA K F ws es → RpA K F (vs ++ ws) (ds ++ es)
  | _, _, _, _, .nil, h => h
  | _, _, _, _, .cons h1 h2, h => .cons h1 (RpA.append h2 h)
theorem RpA.take : ∀ {vs : List V} {ds : List DD} (n : Nat), RpA K F vs ds → RpA K F (vs.take n) (ds.take n)
  | _, _, 0, _ => by simp; exact .nil
  | _, _, n + 1, .nil => .nil
  | _, _, n + 1, .cons h1 h2 => .cons h1 (RpA.take n h2)
theorem RpA.drop : ∀ {vs : List V} {ds : List DD} (n : Nat), RpA K F vs ds → RpA K F (vs.drop n) (ds.drop n)
  | _, _, 0, h => h
  | _, _, n + 1, .nil => .nil
  | _, _, n + 1, .cons h1 h2 => RpA.drop n h2
theorem RpA.set : ∀ {vs : List V} {ds : List DD} {v : V} {d : DD} (n : Nat), RpA K F vs ds → Rp K F v d → RpA K F (vs.set n v) (ds.set n d)
  | _, _, _, _, _, .nil, _ => .nil
  | _, _, _, _, 0, .cons h1 h2, h => .cons h h2
  | _, _, _, _, n + 1, .cons h1 h2, h => .cons h1 (RpA.set n h2 h)
theorem RpA.rep : ∀ {vs : List V} {ds : List DD} (n : Nat), RpA K F vs ds → RpA K F (List.replicate n vs).flatten (List.replicate n ds).flatten
  | _, _, 0, _ => .nil
  | _, _, n + 1, h => by
    rw [List.replicate_succ, List.replicate_succ, List.flatten_cons, List.flatten_cons]
    exact h.append (RpA.rep n h)
theorem Rp.int_inv {v : V} {i : Int} (h : Rp K F v (.int i)) : v = .int i := by cases h; rfl
theorem Rp.bl_inv {v : V} {i : Bool} (h : Rp K F v (.bl i)) : v = .bl i := by cases h; rfl
theorem Rp.str_inv {v : V} {i : Str} (h : Rp K F v (.str i)) : v = .str i := by cases h; rfl
theorem Rp.non_inv {v : V} (h : Rp K F v .non) : v = .non := by cases h; rfl
theorem Rp.raw_inv {v w : V} (h : Rp K F v (.raw w)) : v = w := by cases h; rfl
theorem Rp.tup_inv {v : V} {ds : List DD} (h : Rp K F v (.tup ds)) : ∃ a xs, v = .ref a ∧ SqT K F a xs ∧ RpA K F xs ds := by
  cases h with
  | tup h1 h2 => exact ⟨_, _, rfl, h1, h2⟩
theorem Rp.dct_inv {v : V} {ks vs : List DD} (h : Rp K F v (.dct ks vs)) : ∃ a o xs, v = .ref a ∧ F a = some (.frz o (dxO a xs)) ∧ RpA K F (xs.map fun x => V.ref x.2.1) ks ∧ RpA K F (xs.map fun x => x.2.2) vs ∧ ks.map keyD = xs.map (fun x => some x.1) := by
  cases h with
  | dct h1 h2 h3 h4 => exact ⟨_, _, _, rfl, h1, h2, h3, h4⟩
theorem Rp.set_inv {v : V} {ks : List DD} (h : Rp K F v (.set ks)) : ∃ a o L, v = .ref a ∧ F a = some (.frz o (SA.stO a L)) ∧ (∀ p ∈ L, SA.NE K F p) ∧ ∀ k, k ∈ L.map (·.2) ↔ some k ∈ ks.map keyD := by
  cases h with
  | set h1 h2 h3 => exact ⟨_, _, _, rfl, h1, h2, h3⟩
theorem Rp.lst_inv {v : V} {ds : List DD} (h : Rp K F v (.lst ds)) : ∃ a xs, v = .ref a ∧ F a = some (.lst xs) ∧ RpA K F xs ds := by
  cases h with
  | lst h1 h2 => exact ⟨_, _, rfl, h1, h2⟩
end

/-! ### the reckoning: a source of two ints that draws change; errors -/
abbrev Sr := Int × Int
structure Ex where
  k : Nat
  arg : Option (Str × DD)
abbrev M (α : Type) := Sr → Option (Except Ex α × Sr)
def ret {α : Type} (x : α) : M α := fun S => some (.ok x, S)
def stk {α : Type} : M α := fun _ => none
def thr {α : Type} (e : Ex) : M α := fun S => some (.error e, S)
def bnd {α β : Type} (m : M α) (k : α → M β) : M β := fun S => match m S with
  | none => none
  | some (.ok x, S') => k x S'
  | some (.error e, S') => some (.error e, S')
@[simp] theorem bnd_ret {α β : Type} (x : α) (k : α → M β) : bnd (ret x) k = k x := rfl
@[simp] theorem bnd_stk {α β : Type} (k : α → M β) : bnd (stk : M α) k = stk := rfl
@[simp] theorem bnd_thr {α β : Type} (e : Ex) (k : α → M β) : bnd (thr e : M α) k = thr e := rfl
theorem bnd_assoc {α β γ : Type} (m : M α) (k : α → M β) (l : β → M γ) : bnd (bnd m k) l = bnd m fun x => bnd (k x) l := by
  funext S
  unfold bnd
  cases h : m S with
  | none => rfl
  | some p =>
    obtain ⟨r, S'⟩ := p
    cases r <;> rfl
def Post {α : Type} (good : α → Sr → Prop) (bad : Ex → Sr → Prop) : Option (Except Ex α × Sr) → Prop
  | none => False
  | some (.ok a, S) => good a S
  | some (.error e, S) => bad e S
theorem Post.bnd {α β : Type} {good : β → Sr → Prop} {bad : Ex → Sr → Prop} {m : M α} {k : α → M β} {S : Sr} (h : Post good bad (AU.bnd m k S)) : Post (fun a S' => Post good bad (k a S')) bad (m S) := by
  unfold AU.bnd at h
  cases e : m S with
  | none => rw [e] at h; exact h
  | some p =>
    obtain ⟨r, S'⟩ := p
    rw [e] at h
    cases r <;> exact h
theorem Post.mono {α : Type} {good good' : α → Sr → Prop} {bad bad' : Ex → Sr → Prop} {r : Option (Except Ex α × Sr)} (h : Post good bad r) (hg : ∀ a S, good a S → good' a S) (hb : ∀ e S, bad e S → bad' e S) : Post good' bad' r := by
  cases r with
  | none => exact h
  | some p =>
    obtain ⟨r, S'⟩ := p
    cases r with
    | ok a => exact hg _ _ h
    | error e => exact hb _ _ h
theorem Post.imp {α : Type} {good good' : α → Sr → Prop} {bad : Ex → Sr → Prop} {r : Option (Except Ex α × Sr)} (h : Post good bad r) (hg : ∀ a S, good a S → good' a S) : Post good' bad r := h.mono hg fun _ _ z => z

/-! ### what the slots hold -/
inductive It where
  | d (x : DD) | l (xs : List DD) | m (ks vs : List DD) | s | sc (ns : List Int)
/-- an object of its own -/
def isOwn : It → Bool
  | .l _ => true
  | .m _ _ => true
  | _ => false
abbrev Env := List (Option It)
structure Bs where
  K : PySem.W.Frag
  F0 : Hp
  H0 : Hp
  sa0 : Option Addr
  T : List (Addr × Str)
  cls : Nat → Value

/-- an object that is kept (where lambdas are made the tables of code objects turn) -/
def Kp (B : Bs) (o : HO) : Prop := B.T = [] ∨ ∀ ps, o ≠ .tbl ps
theorem Kp.lst {B : Bs} {xs : List V} : Kp B (.lst xs) := .inr fun _ z => by cases z
theorem Kp.dx {B : Bs} {a : Addr} {xs : List DEnt} : Kp B (dxO a xs) := .inr fun _ z => by unfold dxO at z; cases z
/-- the entries of a dict as data -/
structure MpOk (K : PySem.W.Frag) (F : Hp) (xs : List DEnt) (ks vs : List DD) : Prop where
  k : RpA K F (xs.map fun x => V.ref x.2.1) ks
  v : RpA K F (xs.map fun x => x.2.2) vs
  e : ks.map keyD = xs.map (fun x => some x.1)
theorem MpOk.same {K : PySem.W.Frag} {F F' : Hp} (s : Same F F') {xs : List DEnt} {ks vs : List DD} (h : MpOk K F xs ks vs) : MpOk K F' xs ks vs := ⟨RpA.same s ks h.k, RpA.same s vs h.v, h.e⟩
/-- nothing that is kept stands there -/
def Fr (B : Bs) (H : Hp) (a : Addr) : Prop := ∀ o, H a = some o → ¬ Kp B o
theorem Fr.of {B : Bs} {H : Hp} {a : Addr} (h : H a = none) : Fr B H a := fun o e => by rw [h] at e; cases e
def ItOk (B : Bs) (F H : Hp) (sa : Option Addr) : It → V → Prop
  | .d x, v => Rp B.K F v x
  | .l xs, v => ∃ a vs, v = .ref a ∧ F a = none ∧ Fr B B.H0 a ∧ sa ≠ some a ∧ H a = some (.lst vs) ∧ RpA B.K F vs xs
  | .m ks vs, v => ∃ a xs, v = .ref a ∧ F a = none ∧ Fr B B.H0 a ∧ sa ≠ some a ∧ H a = some (dxO a xs) ∧ MpOk B.K F xs ks vs
  | .s, v => ∃ a, v = .ref a ∧ sa = some a
  | .sc ns, v => ∃ a, v = .ref a ∧ SqL B.K F a (ns.map V.int)

structure Ok (B : Bs) (env : Env) (S : Sr) (σ : L2.St) (F H : Hp) (sa : Option Addr) : Prop where
  ff : Same B.F0 F
  fh : Same F H
  hh : ∀ a o, B.H0 a = some o → B.sa0 ≠ some a → Kp B o → H a = some o
  nf : ∀ a o, B.H0 a = some o → Kp B o → B.F0 a = none → F a = none
  tb : LamX.Tabs B.T H
  sa0 : sa = B.sa0 ∨ B.sa0 = none
  so : ∀ a, sa = some a → F a = none ∧ H a = some (.lst [.int S.1, .int S.2]) ∧ (B.sa0 = some a ∨ Fr B B.H0 a)
  len : env.length = σ.length
  sl : ∀ (i : Nat) (it : It), env[i]? = some (some it) → ∃ v, σ[i]? = some (some v) ∧ ItOk B F H sa it v
  dj : ∀ (i j : Nat) (x y : It) (a : Addr), i ≠ j → env[i]? = some (some x) → isOwn x = true → env[j]? = some (some y) → isOwn y = true → σ[i]? = some (some (.ref a)) → σ[j]? ≠ some (some (.ref a))
  ft : ∀ a ps, F a ≠ some (.tbl ps)

/-- how the heaps grow: what is laid down stays, what was there stays but the source and the tables, what was not laid down is not -/
structure Gw (B : Bs) (sa : Option Addr) (F H F' H' : Hp) : Prop where
  ff : Same F F'
  kp : ∀ a o, H a = some o → sa ≠ some a → Kp B o → H' a = some o
  nf : ∀ a o, H a = some o → Kp B o → F a = none → F' a = none
  hh : ∀ a o, H a = some o → Kp B o → ∃ o', H' a = some o' ∧ Kp B o'
theorem Gw.refl {B : Bs} {sa : Option Addr} {F H : Hp} : Gw B sa F H F H := ⟨Same.refl F, fun _ _ e _ _ => e, fun _ _ _ _ e => e, fun _ o e k => ⟨o, e, k⟩⟩
theorem Gw.trans {B : Bs} {sa : Option Addr} {F H F1 H1 F2 H2 : Hp} (a : Gw B sa F H F1 H1) (b : Gw B sa F1 H1 F2 H2) : Gw B sa F H F2 H2 :=
  ⟨a.ff.trans b.ff, fun c o e h1 h2 => b.kp c o (a.kp c o e h1 h2) h1 h2, fun c o e h1 h2 => let ⟨o', e', k'⟩ := a.hh c o e h1; b.nf c o' e' k' (a.nf c o e h1 h2), fun c o e h => let ⟨o', e', k'⟩ := a.hh c o e h; b.hh c o' e' k'⟩

/-- what is wished of an error -/
def ExP (B : Bs) (W : WX) (e : Ex) (σ : L2.St) (F H : Hp) : Prop := match e.arg with
  | none => W (B.cls e.k) none σ H
  | some (f, x) => ∀ d v, F d = none → H d = some (.xd [(f, v)]) → Rp B.K F v x → W (B.cls e.k) (some d) σ H
def Bad (B : Bs) (W : WX) (env : Env) (σ : L2.St) (F H : Hp) (sa : Option Addr) : Ex → Sr → Prop := fun e S => ∀ F' H', Ok B env S σ F' H' sa → Gw B sa F H F' H' → ExP B W e σ F' H'
def Good (B : Bs) (env : Env) (σ : L2.St) (F H : Hp) (sa : Option Addr) (Q : VK) : DD → Sr → Prop := fun d S => ∀ v F' H', Ok B env S σ F' H' sa → Gw B sa F H F' H' → Rp B.K F' v d → Q v H'
def GoodB (B : Bs) (env : Env) (σ : L2.St) (F H : Hp) (sa : Option Addr) (Q : Bool → Hp → Prop) : Bool → Sr → Prop := fun b S => ∀ F' H', Ok B env S σ F' H' sa → Gw B sa F H F' H' → Q b H'
def GoodL (B : Bs) (env : Env) (σ : L2.St) (F H : Hp) (sa : Option Addr) (Q : List V → Hp → Prop) : List DD → Sr → Prop := fun ds S => ∀ vs F' H', Ok B env S σ F' H' sa → Gw B sa F H F' H' → RpA B.K F' vs ds → Q vs H'

def SndE (B : Bs) (W : WX) (te : TE) (f : Env → M DD) : Prop := ∀ env S σ F H sa, Ok B env S σ F H sa → ∀ Q : VK, Post (Good B env σ F H sa Q) (Bad B W env σ F H sa) (f env S) → te σ H Q
def SndT (B : Bs) (W : WX) (tt : TT) (f : Env → M Bool) : Prop := ∀ env S σ F H sa, Ok B env S σ F H sa → ∀ Q : Bool → Hp → Prop, Post (GoodB B env σ F H sa Q) (Bad B W env σ F H sa) (f env S) → tt σ H Q
def SndA (B : Bs) (W : WX) (ta : TA) (f : Env → M (List DD)) : Prop := ∀ env S σ F H sa, Ok B env S σ F H sa → ∀ Q : List V → Hp → Prop, Post (GoodL B env σ F H sa Q) (Bad B W env σ F H sa) (f env S) → ta σ H Q
structure DE (X : Cx) (B : Bs) (W : WX) (e : Expr) (f : Env → M DD) : Prop where
  ex : ∃ te, PE X e te ∧ SndE B W te f
structure DT (X : Cx) (B : Bs) (W : WX) (e : Expr) (f : Env → M Bool) : Prop where
  ex : ∃ te, PT X e te ∧ SndT B W te f
structure DW (X : Cx) (B : Bs) (W : WX) (e : Expr) (f : Env → M Bool) : Prop where
  ex : ∃ te, PW X e te ∧ SndT B W te f
structure DA (X : Cx) (B : Bs) (W : WX) (es : List Expr) (f : Env → M (List DD)) : Prop where
  ex : ∃ te, PA X es te ∧ SndA B W te f

/-! ### how what is known goes on -/
section
variable {B : Bs} {env : Env} {S : Sr} {σ : L2.St} {F H : Hp} {sa : Option Addr}
theorem Ok.there (k : Ok B env S σ F H sa) {a : Addr} {u : HO} (q : B.H0 a = some u) (ku : Kp B u) : ∃ o, H a = some o ∧ Kp B o := by
  by_cases hs : B.sa0 = some a
  · rcases k.sa0 with e | e
    · exact ⟨_, (k.so a (by rw [e]; exact hs)).2.1, .lst⟩
    · rw [e] at hs
      cases hs
  · exact ⟨u, k.hh a u q hs ku, ku⟩
theorem Ok.fr0 (k : Ok B env S σ F H sa) {p : Addr} (hp : Fr B H p) : Fr B B.H0 p := fun u q ku => by
  obtain ⟨o, e, ko⟩ := k.there q ku
  exact hp o e ko
/-- a new object of data is laid -/
theorem Ok.new (k : Ok B env S σ F H sa) {p : Addr} (hp : H p = none) (o : HO) (ho : ∀ ps, o ≠ .tbl ps := by intro ps z; cases z) : Ok B env S σ (upd F p o) (upd H p o) sa := by
  have fp : F p = none := k.fh.free hp
  have f0p : B.F0 p = none := k.ff.free fp
  have sF : Same F (upd F p o) := fun b u e => by
    rw [upd_ne (ne_of_none e fp)]
    exact e
  have sH : Same H (upd H p o) := fun b u e => by
    rw [upd_ne (ne_of_none e hp)]
    exact e
  refine ⟨k.ff.trans sF, fun b u e => ?_, fun a u e h1 h2 => sH _ _ (k.hh a u e h1 h2), fun a u h0 h1 h2 => ?_, k.tb.ext sH, k.sa0, fun a e => ?_, k.len, fun i it e => ?_, k.dj, fun a ps e => ?_⟩
  · by_cases hb : b = p
    · subst hb
      rw [upd_same] at e ⊢
      exact e
    · rw [upd_ne hb] at e ⊢
      exact k.fh _ _ e
  · have h3 := k.nf a u h0 h1 h2
    obtain ⟨o', e', _⟩ := k.there h0 h1
    rw [upd_ne (ne_of_none e' hp)]
    exact h3
  · obtain ⟨h1, h2, h4⟩ := k.so a e
    have ne : a ≠ p := ne_of_none h2 hp
    exact ⟨by rw [upd_ne ne]; exact h1, by rw [upd_ne ne]; exact h2, h4⟩
  · obtain ⟨v, h1, h2⟩ := k.sl i it e
    refine ⟨v, h1, ?_⟩
    cases it with
    | d x => exact Rp.same sF x h2
    | l xs =>
      obtain ⟨a, vs, e1, e2, e3, e4, e5, e6⟩ := h2
      have ne : a ≠ p := ne_of_none e5 hp
      exact ⟨a, vs, e1, by rw [upd_ne ne]; exact e2, e3, e4, by rw [upd_ne ne]; exact e5, RpA.same sF xs e6⟩
    | m ks ws =>
      obtain ⟨a, xs, e1, e2, e3, e4, e5, e6⟩ := h2
      have ne : a ≠ p := ne_of_none e5 hp
      exact ⟨a, xs, e1, by rw [upd_ne ne]; exact e2, e3, e4, by rw [upd_ne ne]; exact e5, e6.same sF⟩
    | s => exact h2
    | sc ns =>
      obtain ⟨a, e1, e2⟩ := h2
      exact ⟨a, e1, Same.seq sF e2⟩
  · by_cases hb : a = p
    · rw [hb, upd_same] at e
      exact ho ps (Option.some.inj e)
    · rw [upd_ne hb] at e
      exact k.ft a ps e
theorem Ok.gw (k : Ok B env S σ F H sa) {p : Addr} (hp : H p = none) (o : HO) : Gw B sa F H (upd F p o) (upd H p o) := by
  refine ⟨fun b u e => ?_, fun b u e _ _ => ?_, fun b u e h1 h2 => ?_, fun b u e h => ⟨u, ?_, h⟩⟩
  · rw [upd_ne (ne_of_none e (k.fh.free hp))]
    exact e
  · rw [upd_ne (ne_of_none e hp)]
    exact e
  · rw [upd_ne (ne_of_none e hp)]
    exact h2
  · rw [upd_ne (ne_of_none e hp)]
    exact e
theorem Ok.sF (k : Ok B env S σ F H sa) {p : Addr} (hp : H p = none) (o : HO) : Same F (upd F p o) := fun b u e => by
  rw [upd_ne (ne_of_none e (k.fh.free hp))]
  exact e
end
end AU
/-! dicts as data: what is found, what is put -/
namespace AU
open PySem PySem.Spec PyProof.Rows L2

def findD (k : NestedKey) : List DD → List DD → Option DD
  | d :: ks, v :: vs => if keyD d = some k then some v else findD k ks vs
  | _, _ => none
def setD (k : NestedKey) (w : DD) : List DD → List DD → List DD
  | d :: ks, v :: vs => (if keyD d = some k then w else v) :: setD k w ks vs
  | _, _ => []
def putD (k : NestedKey) (d v : DD) (ks vs : List DD) : List DD × List DD :=
  if (findD k ks vs).isSome = true then (ks, setD k v ks vs) else (ks ++ [d], vs ++ [v])
section
variable {K : PySem.W.Frag} {F H : Hp}
mutual
theorem nk_of (e : Same F H) : ∀ (d : DD) {v : V} {k : NestedKey}, Rp K F v d → nkD d = some k → NkV K H v k
  | .non, _, _, r, h => by
    cases r
    cases h
    exact .non
  | .bl b, _, _, r, h => by
    cases r
    cases h
    exact .bl b
  | .int i, _, _, r, h => by
    cases r
    cases h
    exact .int i
  | .str x, _, _, r, h => by cases h
  | .lst x, _, _, r, h => by cases h
  | .raw x, _, _, r, h => by cases h
  | .dct x y, _, _, r, h => by cases h
  | .tup ds, _, _, r, h => by
    obtain ⟨a, xs, rfl, h1, h2⟩ := r.tup_inv
    unfold nkD at h
    cases q : nkDs ds with
    | none => rw [q] at h; cases h
    | some ks =>
      rw [q] at h
      cases h
      exact .tup (sqT_same e h1) (nks_of e ds h2 q)
theorem nks_of (e : Same F H) : ∀ (ds : List DD) {vs : List V} {ks : List NestedKey}, RpA K F vs ds → nkDs ds = some ks → NkVs K H vs ks
  | [], _, _, r, h => by
    cases r
    cases h
    exact .nil
  | d :: ds, _, _, r, h => by
    cases r with
    | cons r1 r2 =>
      unfold nkDs at h
      cases q : nkD d with
      | none => rw [q] at h; cases h
      | some k =>
        cases q2 : nkDs ds with
        | none => rw [q, q2] at h; cases h
        | some ks =>
          rw [q, q2] at h
          cases h
          exact .cons (nk_of e d r1 q) (nks_of e ds r2 q2)
end
theorem key_of (e : Same F H) {d : DD} {v : V} {k : NestedKey} (r : Rp K F v d) (h : keyD d = some k) : ∃ b, v = .ref b ∧ KeyX K H b k := by
  cases d with
  | tup ds =>
    unfold keyD at h
    simp only at h
    cases q : nkDs ds with
    | none => rw [q] at h; cases h
    | some ks =>
      rw [q] at h
      simp only at h
      by_cases g : (NestedKey.tup ks).depth ≤ 8
      · rw [if_pos g] at h
        cases h
        obtain ⟨a, xs, rfl, h1, h2⟩ := r.tup_inv
        exact ⟨a, rfl, .tup (sqT_same e h1) (nks_of e ds h2 q), g⟩
      · rw [if_neg g] at h
        cases h
  | _ => cases h
theorem MpOk.keys (e : Same F H) {xs : List DEnt} {ks vs : List DD} (h : MpOk K F xs ks vs) : KeysX K H xs := by
  intro x hx
  obtain ⟨i, hi⟩ := List.getElem?_of_mem hx
  have h1 : (xs.map fun x => V.ref x.2.1)[i]? = some (.ref x.2.1) := by rw [List.getElem?_map, hi]; rfl
  obtain ⟨d, hd, r⟩ := h.k.get' h1
  have h2 : (ks.map keyD)[i]? = some (keyD d) := by rw [List.getElem?_map, hd]; rfl
  rw [h.e, List.getElem?_map, hi] at h2
  have h2 : some x.1 = keyD d := Option.some.inj h2
  obtain ⟨b, e1, e2⟩ := key_of e r h2.symm
  cases e1
  exact e2
theorem MpOk.len {xs : List DEnt} {ks vs : List DD} (h : MpOk K F xs ks vs) : xs.length = ks.length ∧ xs.length = vs.length :=
  ⟨by have := h.k.length; simpa using this, by have := h.v.length; simpa using this⟩
theorem MpOk.uncons {x : DEnt} {xs : List DEnt} {ks vs : List DD} (h : MpOk K F (x :: xs) ks vs) : ∃ d ks' v vs', ks = d :: ks' ∧ vs = v :: vs' ∧ Rp K F (.ref x.2.1) d ∧ Rp K F x.2.2 v ∧ keyD d = some x.1 ∧ MpOk K F xs ks' vs' := by
  obtain ⟨a, b, c⟩ := h
  cases a with
  | cons a1 a2 =>
    cases b with
    | cons b1 b2 =>
      have c := List.cons.inj c
      exact ⟨_, _, _, _, rfl, rfl, a1, b1, c.1, a2, b2, c.2⟩
theorem MpOk.cons' {x : DEnt} {xs : List DEnt} {d v : DD} {ks vs : List DD} (r1 : Rp K F (.ref x.2.1) d) (r2 : Rp K F x.2.2 v) (e : keyD d = some x.1) (h : MpOk K F xs ks vs) : MpOk K F (x :: xs) (d :: ks) (v :: vs) :=
  ⟨.cons r1 h.k, .cons r2 h.v, by rw [List.map_cons, List.map_cons, e, h.e]⟩
theorem MpOk.find (k : NestedKey) : ∀ {xs : List DEnt} {ks vs : List DD}, MpOk K F xs ks vs → (valX xs k = none ∧ findD k ks vs = none) ∨ ∃ v d, valX xs k = some v ∧ findD k ks vs = some d ∧ Rp K F v d
  | [], ks, vs, h => by
    obtain ⟨a, b, c⟩ := h
    cases a
    cases b
    exact .inl ⟨rfl, rfl⟩
  | x :: xs, ks, vs, h => by
    obtain ⟨d, ks', v, vs', rfl, rfl, r1, r2, e, h'⟩ := h.uncons
    unfold valX findD
    rw [List.find?_cons, e]
    by_cases g : x.1 = k
    · rw [decide_eq_true g, if_pos (by rw [g])]
      exact .inr ⟨_, _, rfl, rfl, r2⟩
    · rw [decide_eq_false g, if_neg (fun z => g (Option.some.inj z))]
      exact MpOk.find k h'
theorem MpOk.isSome_eq (k : NestedKey) {xs : List DEnt} {ks vs : List DD} (h : MpOk K F xs ks vs) : (valX xs k).isSome = (findD k ks vs).isSome := by
  rcases h.find k with ⟨e1, e2⟩ | ⟨v, d, e1, e2, _⟩ <;> rw [e1, e2] <;> rfl
theorem MpOk.set {k : NestedKey} {v : V} {w : DD} (rv : Rp K F v w) : ∀ {xs : List DEnt} {ks vs : List DD}, MpOk K F xs ks vs → MpOk K F (xs.map fun x => if x.1 = k then (x.1, x.2.1, v) else x) ks (setD k w ks vs)
  | [], ks, vs, h => by
    obtain ⟨a, b, c⟩ := h
    cases a
    cases b
    exact ⟨.nil, .nil, rfl⟩
  | x :: xs, ks, vs, h => by
    obtain ⟨d, ks', u, vs', rfl, rfl, r1, r2, e, h'⟩ := h.uncons
    have ih := MpOk.set (k := k) rv h'
    rw [List.map_cons]
    unfold setD
    rw [e]
    by_cases g : x.1 = k
    · rw [if_pos g, if_pos (by rw [g])]
      exact MpOk.cons' (x := (x.1, x.2.1, v)) r1 rv e ih
    · rw [if_neg g, if_neg (fun z => g (Option.some.inj z))]
      exact ih.cons' r1 r2 e
theorem MpOk.put {k : NestedKey} {b : Addr} {d : DD} {v : V} {w : DD} (rd : Rp K F (.ref b) d) (hd : keyD d = some k) (rv : Rp K F v w) {xs : List DEnt} {ks vs : List DD} (h : MpOk K F xs ks vs) : MpOk K F (putX xs k b v) (putD k d w ks vs).1 (putD k d w ks vs).2 := by
  unfold putX putD
  rw [h.isSome_eq k]
  by_cases g : (findD k ks vs).isSome = true
  · rw [if_pos g, if_pos g]
    exact h.set rv
  · rw [if_neg g, if_neg g]
    refine ⟨?_, ?_, ?_⟩
    · rw [List.map_append]
      exact h.k.append (.cons rd .nil)
    · rw [List.map_append]
      exact h.v.append (.cons rv .nil)
    · rw [List.map_append, List.map_append, h.e, List.map_cons, List.map_cons, hd]
      rfl
/-- pairs: keys, values -/
def pairsD : List DD → Option (List (DD × DD))
  | [] => some []
  | .tup [k, v] :: ps => match keyD k, pairsD ps with
    | some _, some r => some ((k, v) :: r)
    | _, _ => none
  | _ => none
def putAllD : List DD × List DD → List (DD × DD) → List DD × List DD
  | r, [] => r
  | r, (k, v) :: ps => putAllD (match keyD k with
    | some q => putD q k v r.1 r.2
    | none => r) ps
theorem pairs_of (K : PySem.W.Frag) {F : Hp} : ∀ {ws : List V} {ds : List DD} {ps : List (DD × DD)}, RpA K F ws ds → pairsD ds = some ps →
    ∃ (ts : List Addr) (prs : List DEnt), ws = ts.map V.ref ∧ Paired (fun t (p : DEnt) => SqT K F t [.ref p.2.1, p.2.2]) ts prs ∧ Paired (fun (p : DEnt) (q : DD × DD) => Rp K F (.ref p.2.1) q.1 ∧ Rp K F p.2.2 q.2 ∧ keyD q.1 = some p.1) prs ps
  | _, _, _, .nil, h => by
    cases h
    exact ⟨[], [], rfl, .nil, .nil⟩
  | _, _, _, .cons (d := d) (ds := ds0) r1 r2, h => by
    match d, h, r1 with
    | .tup [k, v], h, r1 =>
      unfold pairsD at h
      cases q : keyD k with
      | none => rw [q] at h; cases h
      | some nk =>
        cases q2 : pairsD ds0 with
        | none => rw [q, q2] at h; cases h
        | some r =>
          rw [q, q2] at h
          cases h
          obtain ⟨ts, prs, e, h1, h2⟩ := pairs_of K r2 q2
          obtain ⟨t, ys, rfl, h3, h4⟩ := r1.tup_inv
          cases h4 with
          | cons k1 h4 =>
            cases h4 with
            | cons v1 h4 =>
              cases h4
              obtain ⟨b, rfl, _⟩ := key_of (Same.refl F) k1 q
              exact ⟨t :: ts, (nk, b, _) :: prs, by rw [e]; rfl, .cons h3 h1, .cons ⟨k1, v1, q⟩ h2⟩
theorem putAll_of {K : PySem.W.Frag} {F : Hp} : ∀ {prs : List DEnt} {ps : List (DD × DD)} {xs : List DEnt} {r : List DD × List DD}, Paired (fun (p : DEnt) (q : DD × DD) => Rp K F (.ref p.2.1) q.1 ∧ Rp K F p.2.2 q.2 ∧ keyD q.1 = some p.1) prs ps → MpOk K F xs r.1 r.2 →
    MpOk K F (putAllX xs prs) (putAllD r ps).1 (putAllD r ps).2
  | _, _, _, _, .nil, h => h
  | _, _, xs, r, .cons (a := p) (b := q) h t, m => by
    obtain ⟨h1, h2, h3⟩ := h
    obtain ⟨qk, qv⟩ := q
    show MpOk K F (putAllX (putX xs p.1 p.2.1 p.2.2) _) (putAllD (match keyD qk with | some q => putD q qk qv r.1 r.2 | none => r) _).1 (putAllD (match keyD qk with | some q => putD q qk qv r.1 r.2 | none => r) _).2
    rw [h3]
    exact putAll_of t (m.put h1 h3 h2)
theorem MpOk.nil {K : PySem.W.Frag} {F : Hp} : MpOk K F [] [] [] := ⟨.nil, .nil, rfl⟩
theorem paired_mono {α β : Type} {R R' : α → β → Prop} (f : ∀ a b, R a b → R' a b) : ∀ {xs : List α} {ys : List β}, Paired R xs ys → Paired R' xs ys
  | _, _, .nil => .nil
  | _, _, .cons h t => .cons (f _ _ h) (paired_mono f t)
end
end AU
namespace AU
open PySem PySem.Spec PyProof.Rows L2

def OpSnd (B : Bs) (W : WX) (r : R2) (op : DD → DD → M DD) : Prop := ∀ env S σ F H sa v w x y, Ok B env S σ F H sa → Rp B.K F v x → Rp B.K F w y → ∀ Q : VK, Post (Good B env σ F H sa Q) (Bad B W env σ F H sa) (op x y S) → r v w H Q
def eOp (op : DD → DD → M DD) (a b : Env → M DD) : Env → M DD := fun env => bnd (a env) fun x => bnd (b env) fun y => op x y
theorem Bad.of {B : Bs} {W : WX} {env : Env} {σ : L2.St} {F F' H H' : Hp} {sa : Option Addr} {e : Ex} {S : Sr} (g : Gw B sa F H F' H') (b : Bad B W env σ F H sa e S) : Bad B W env σ F' H' sa e S := fun F2 H2 k s => b F2 H2 k (g.trans s)
theorem Good.of {B : Bs} {env : Env} {σ : L2.St} {F F' H H' : Hp} {sa : Option Addr} {Q : VK} {d : DD} {S : Sr} (e : Gw B sa F H F' H') (g : Good B env σ F H sa Q d S) : Good B env σ F' H' sa Q d S := fun v F2 H2 k s r => g v F2 H2 k (e.trans s) r
theorem Post.same {B : Bs} {W : WX} {env : Env} {σ : L2.St} {F F' H H' : Hp} {sa : Option Addr} {Q : VK} {r : Option (Except Ex DD × Sr)} (e : Gw B sa F H F' H') (g : Post (Good B env σ F H sa Q) (Bad B W env σ F H sa) r) : Post (Good B env σ F' H' sa Q) (Bad B W env σ F' H' sa) r :=
  g.mono (fun _ _ => Good.of e) fun _ _ => Bad.of e
theorem GoodB.of {B : Bs} {env : Env} {σ : L2.St} {F F' H H' : Hp} {sa : Option Addr} {Q : Bool → Hp → Prop} {d : Bool} {S : Sr} (e : Gw B sa F H F' H') (g : GoodB B env σ F H sa Q d S) : GoodB B env σ F' H' sa Q d S := fun F2 H2 k s => g F2 H2 k (e.trans s)
theorem Post.sameB {B : Bs} {W : WX} {env : Env} {σ : L2.St} {F F' H H' : Hp} {sa : Option Addr} {Q : Bool → Hp → Prop} {r : Option (Except Ex Bool × Sr)} (e : Gw B sa F H F' H') (g : Post (GoodB B env σ F H sa Q) (Bad B W env σ F H sa) r) : Post (GoodB B env σ F' H' sa Q) (Bad B W env σ F' H' sa) r :=
  g.mono (fun _ _ => GoodB.of e) fun _ _ => Bad.of e
theorem GoodL.of {B : Bs} {env : Env} {σ : L2.St} {F F' H H' : Hp} {sa : Option Addr} {Q : List V → Hp → Prop} {d : List DD} {S : Sr} (e : Gw B sa F H F' H') (g : GoodL B env σ F H sa Q d S) : GoodL B env σ F' H' sa Q d S := fun vs F2 H2 k s r => g vs F2 H2 k (e.trans s) r
theorem Post.sameL {B : Bs} {W : WX} {env : Env} {σ : L2.St} {F F' H H' : Hp} {sa : Option Addr} {Q : List V → Hp → Prop} {r : Option (Except Ex (List DD) × Sr)} (e : Gw B sa F H F' H') (g : Post (GoodL B env σ F H sa Q) (Bad B W env σ F H sa) r) : Post (GoodL B env σ F' H' sa Q) (Bad B W env σ F' H' sa) r :=
  g.mono (fun _ _ => GoodL.of e) fun _ _ => Bad.of e

section
variable {B : Bs} {W : WX} {X : Cx} {a b c : Expr} {fa fb fc : Env → M DD} {pos : Pos} {ta tb tc : TE}
theorem sndE_op {r : R2} {op : DD → DD → M DD} (ho : OpSnd B W r op) (ha : SndE B W ta fa) (hb : SndE B W tb fb) : SndE B W (tOp r ta tb) (eOp op fa fb) := fun env S σ F H sa k Q h =>
  ha env S σ F H sa k _ (Post.bnd h |>.imp fun x S1 h1 v F1 H1 k1 s1 r1 =>
    hb env S1 σ F1 H1 sa k1 _ ((Post.bnd (h1.same s1)).imp fun y S2 h2 w F2 H2 k2 s2 r2 =>
      ho env S2 σ F2 H2 sa v w x y k2 (Rp.same s2.ff x r1) r2 Q (h2.same s2)))
theorem de_op {r : R2} {op : Operator} {f : DD → DD → M DD} (ho : OpR X (binaryOp op) r) (hs : OpSnd B W r f) (ha : DE X B W a fa) (hb : DE X B W b fb) : DE X B W (.BinOp a op b pos) (eOp f fa fb) := by
  obtain ⟨ta, pa, sa⟩ := ha.ex
  obtain ⟨tb, pb, sb⟩ := hb.ex
  exact ⟨_, pe_op ho pa pb, sndE_op hs sa sb⟩
theorem de_cmp {r : R2} {op : CmpOp} {f : DD → DD → M DD} (ho : OpR X (compareOp op) r) (hs : OpSnd B W r f) (ha : DE X B W a fa) (hb : DE X B W b fb) (hm : behindInMarks op b = false := by first | exact nomark _ | rfl) : DE X B W (.Compare a [op] [b] pos) (eOp f fa fb) := by
  obtain ⟨ta, pa, sa⟩ := ha.ex
  obtain ⟨tb, pb, sb⟩ := hb.ex
  exact ⟨_, pe_cmpR ho pa pb hm, sndE_op hs sa sb⟩
theorem OpR.or {f : Value → Value → Sem Value} {r r' : R2} (h : OpR X f r) (h' : OpR X f r') : OpR X f (fun x y H Q => r x y H Q ∨ r' x y H Q) := by
  intro pins s σ H x y v u Q I rx ry q
  rcases q with q | q
  · exact h pins s σ H x y v u Q I rx ry q
  · exact h' pins s σ H x y v u Q I rx ry q

/-! ### names, constants -/
def eVar (i : Nat) : Env → M DD := fun env => match env[i]? with
  | some (some (.d x)) => ret x
  | _ => stk
theorem sndE_var (i : Nat) : SndE B W (tVar i) (eVar i) := fun env S σ F H sa k Q h => by
  unfold eVar at h
  cases e : env[i]? with
  | none => rw [e] at h; exact h.elim
  | some o =>
    cases o with
    | none => rw [e] at h; exact h.elim
    | some it =>
      cases it with
      | d x =>
        rw [e] at h
        obtain ⟨v, h1, h2⟩ := k.sl i _ e
        exact ⟨v, h1, h v F H k Gw.refl h2⟩
      | l xs => rw [e] at h; exact h.elim
      | m _ _ => rw [e] at h; exact h.elim
      | s => rw [e] at h; exact h.elim
      | sc ns => rw [e] at h; exact h.elim
theorem de_var (i : Nat) {x : Str} (hN : X.N[i]? = some x := by rfl) (hv : Vis X.env.scope x := by first | exact Or.inl rfl | exact Or.inr (Or.inl rfl) | exact Or.inr (Or.inr rfl)) (hd : (x == ("__debug__" : Str)) = false := by decide)
    (hcd : (x == ("__classdict__" : Str)) = false := by decide) : DE X B W (.Name x pos) (eVar i) := ⟨_, pe_var hN hv hd hcd, sndE_var i⟩
def eC (d : DD) : Env → M DD := fun _ => ret d
theorem sndE_c {v : V} {d : DD} (h : ∀ F, Rp B.K F v d) : SndE B W (tC v) (eC d) := fun env S σ F H sa k Q q => q v F H k Gw.refl (h F)
theorem de_int {i : Int} {j : Nat} : DE X B W (.Constant (.int i) j pos) (eC (.int i)) := ⟨_, pe_int, sndE_c fun _ => .int i⟩
theorem de_bl {i : Bool} {j : Nat} : DE X B W (.Constant (.bool i) j pos) (eC (.bl i)) := ⟨_, pe_bl, sndE_c fun _ => .bl i⟩
theorem de_non {j : Nat} : DE X B W (.Constant .none j pos) (eC .non) := ⟨_, pe_non, sndE_c fun _ => .non⟩
theorem de_str {x : Str} {j : Nat} : DE X B W (.Constant (.str x) j pos) (eC (.str x)) := ⟨_, pe_str, sndE_c fun _ => .str x⟩
theorem de_glob {x : Str} {v : V} {u : Value} {d : DD} (hm : X.mg x = some u) (r : RelV v u) (h : ∀ F, Rp B.K F v d) (hg : Gl X x := by rfl) (hd : (x == ("__debug__" : Str)) = false := by decide) : DE X B W (.Name x pos) (eC d) := ⟨_, pe_glob hg hm r hd, sndE_c h⟩

/-! ### the operators -/
def szOk (n : Nat) : Bool := decide (n ≤ 100000)
theorem szOk.le {n : Nat} (h : szOk n = true) : n ≤ sizeLine := Nat.le_trans (of_decide_eq_true h) (by rw [sizeLine_eq]; decide)
def opAdd : DD → DD → M DD
  | .int i, .int j => ret (.int (i + j))
  | .str x, .str y => if szOk (x.length + y.length) = true then ret (.str (x ++ y)) else stk
  | .lst x, .lst y => if szOk (x.length + y.length) = true then ret (.lst (x ++ y)) else stk
  | .tup x, .tup y => if szOk (x.length + y.length) = true then ret (.tup (x ++ y)) else stk
  | _, _ => stk
def rAddD (K : PySem.W.Frag) : R2 := fun x y H Q => (rI0 fun i j => .int (i + j)) x y H Q ∨ (∃ i j, x = .str i ∧ y = .str j ∧ i.length + j.length ≤ sizeLine ∧ Q (.str (i ++ j)) H) ∨ rCat x y H Q ∨ rCatA K x y H Q
theorem or_add : OpR X (binaryOp .Add) (rAddD X.K) := OpR.or op_add (OpR.or op_add_str (OpR.or op_cat op_catA))
theorem post_if {α : Type} {good : α → Sr → Prop} {bad : Ex → Sr → Prop} {c : Bool} {m : M α} {S : Sr} (h : Post good bad ((if c = true then m else stk) S)) : c = true ∧ Post good bad (m S) := by
  cases c with
  | true => exact ⟨rfl, h⟩
  | false => exact h.elim
theorem good_new {env : Env} {S : Sr} {σ : L2.St} {F H : Hp} {sa : Option Addr} {Q : VK} {d : DD} {o : HO} (k : Ok B env S σ F H sa) (g : Good B env σ F H sa Q d S) (hr : ∀ p F', Same F F' → F' p = some o → Rp B.K F' (.ref p) d) (ho : ∀ ps, o ≠ .tbl ps := by intro ps z; cases z) : ∀ p, H p = none → Q (.ref p) (upd H p o) := fun p hp =>
  g _ _ _ (k.new hp o ho) (k.gw hp o) (hr p _ (k.sF hp o) upd_same)
theorem snd_add : OpSnd B W (rAddD B.K) opAdd := fun env S σ F H sa v w x y k rx ry Q h => by
  cases x with
  | int i =>
    cases y with
    | int j =>
      cases rx.int_inv
      cases ry.int_inv
      exact .inl ⟨i, j, rfl, rfl, h _ F H k Gw.refl (.int _)⟩
    | _ => exact h.elim
  | str i =>
    cases y with
    | str j =>
      cases rx.str_inv
      cases ry.str_inv
      obtain ⟨hc, h⟩ := post_if h
      exact .inr (.inl ⟨i, j, rfl, rfl, szOk.le hc, h _ F H k Gw.refl (.str _)⟩)
    | _ => exact h.elim
  | lst xs =>
    cases y with
    | lst ys =>
      obtain ⟨p, vs, rfl, h1, h2⟩ := rx.lst_inv
      obtain ⟨q, ws, rfl, h3, h4⟩ := ry.lst_inv
      obtain ⟨hc, h⟩ := post_if h
      refine .inr (.inr (.inl ⟨p, q, vs, ws, rfl, rfl, k.fh _ _ h1, k.fh _ _ h3, ?_, good_new k h fun p F' e hp => .lst hp (RpA.same e _ (h2.append h4))⟩))
      rw [h2.length, h4.length]
      exact szOk.le hc
    | _ => exact h.elim
  | tup xs =>
    cases y with
    | tup ys =>
      obtain ⟨p, vs, rfl, h1, h2⟩ := rx.tup_inv
      obtain ⟨q, ws, rfl, h3, h4⟩ := ry.tup_inv
      obtain ⟨hc, h⟩ := post_if h
      refine .inr (.inr (.inr ⟨p, q, vs, ws, rfl, rfl, sqT_same k.fh h1, sqT_same k.fh h3, ?_, fun e => ?_, fun _ e => ?_, fun _ _ => good_new k h fun p F' e hp => .tup (SqT.of hp) (RpA.same e _ (h2.append h4))⟩))
      · rw [h2.length, h4.length]
        exact szOk.le hc
      · subst e
        cases h2
        exact h _ F H k Gw.refl (.tup h3 h4)
      · subst e
        cases h4
        rw [List.append_nil] at h
        exact h _ F H k Gw.refl (.tup h1 h2)
    | _ => exact h.elim
  | _ => exact h.elim
theorem de_add (hK : B.K = X.K) (ha : DE X B W a fa) (hb : DE X B W b fb) : DE X B W (.BinOp a .Add b pos) (eOp opAdd fa fb) := de_op or_add (hK ▸ snd_add) ha hb

/-- ints in -/
def opI (C : Int → Int → Bool) (g : Int → Int → DD) : DD → DD → M DD
  | .int i, .int j => if C i j = true then ret (g i j) else stk
  | _, _ => stk
theorem snd_I {C : Int → Int → Bool} {C' : Int → Int → Prop} {g : Int → Int → DD} {g' : Int → Int → V} (hc : ∀ i j, C i j = true → C' i j) (hg : ∀ F i j, Rp B.K F (g' i j) (g i j)) : OpSnd B W (rI C' g') (opI C g) := fun env S σ F H sa v w x y k rx ry Q h => by
  cases x with
  | int i =>
    cases y with
    | int j =>
      cases rx.int_inv
      cases ry.int_inv
      obtain ⟨c, h⟩ := post_if h
      exact ⟨i, j, rfl, rfl, hc i j c, h _ F H k Gw.refl (hg F i j)⟩
    | _ => exact h.elim
  | _ => exact h.elim
theorem snd_I0 {g : Int → Int → DD} {g' : Int → Int → V} (hg : ∀ F i j, Rp B.K F (g' i j) (g i j)) : OpSnd B W (rI0 g') (opI (fun _ _ => true) g) := fun env S σ F H sa v w x y k rx ry Q h => by
  cases x with
  | int i =>
    cases y with
    | int j =>
      cases rx.int_inv
      cases ry.int_inv
      exact ⟨i, j, rfl, rfl, h _ F H k Gw.refl (hg F i j)⟩
    | _ => exact h.elim
  | _ => exact h.elim
def opSub := opI (fun _ _ => true) fun i j => .int (i - j)
def cDiv (_ j : Int) : Bool := decide (0 < j) && decide (j < 10 ^ 40)
def opDiv := opI cDiv fun i j => .int (i / j)
def opMod := opI (fun _ j => decide (0 < j)) fun i j => .int (i % j)
def opPow := opI (fun i j => decide (0 ≤ j) && decide (j ≤ 1000) && decide (i.natAbs < 1000)) fun i j => .int (i ^ j.toNat)
def opLt := opI (fun _ _ => true) fun i j => .bl (decide (i < j))
def opLe := opI (fun _ _ => true) fun i j => .bl (decide (i ≤ j))
def opGt := opI (fun _ _ => true) fun i j => .bl (decide (j < i))
def opGe := opI (fun _ _ => true) fun i j => .bl (decide (j ≤ i))
theorem de_sub (ha : DE X B W a fa) (hb : DE X B W b fb) : DE X B W (.BinOp a .Sub b pos) (eOp opSub fa fb) := de_op op_sub (snd_I0 fun _ _ _ => .int _) ha hb
theorem de_div (ha : DE X B W a fa) (hb : DE X B W b fb) : DE X B W (.BinOp a .FloorDiv b pos) (eOp opDiv fa fb) := de_op op_fdivW (snd_I (C := cDiv) (fun i j h => by
  unfold cDiv at h
  simp only [Bool.and_eq_true, decide_eq_true_eq] at h
  exact wide_div (b := 200) h.1 (by
    have e : (10 : Int) ^ 40 < 2 ^ 200 := by decide
    have e2 : ((2 : Nat) ^ 200 : Nat) = ((2 : Int) ^ 200).toNat := by decide
    omega) (by decide) (by decide)) fun _ _ _ => .int _) ha hb
theorem de_mod (ha : DE X B W a fa) (hb : DE X B W b fb) : DE X B W (.BinOp a .Mod b pos) (eOp opMod fa fb) := de_op op_mod (snd_I (C := fun _ j => decide (0 < j)) (fun _ _ h => of_decide_eq_true h) fun _ _ _ => .int _) ha hb
theorem de_pow (ha : DE X B W a fa) (hb : DE X B W b fb) : DE X B W (.BinOp a .Pow b pos) (eOp opPow fa fb) := de_op op_pow (snd_I (fun i j h => by
  simp only [Bool.and_eq_true, decide_eq_true_eq] at h
  exact ⟨h.1.1, by omega, by omega⟩) fun _ _ _ => .int _) ha hb
theorem de_lt (ha : DE X B W a fa) (hb : DE X B W b fb) : DE X B W (.Compare a [.Lt] [b] pos) (eOp opLt fa fb) := de_cmp op_lt (snd_I0 fun _ _ _ => .bl _) ha hb (nomark _)
theorem de_le (ha : DE X B W a fa) (hb : DE X B W b fb) : DE X B W (.Compare a [.LtE] [b] pos) (eOp opLe fa fb) := de_cmp op_le (snd_I0 fun _ _ _ => .bl _) ha hb (nomark _)
theorem de_gt (ha : DE X B W a fa) (hb : DE X B W b fb) : DE X B W (.Compare a [.Gt] [b] pos) (eOp opGt fa fb) := de_cmp op_gt (snd_I0 fun _ _ _ => .bl _) ha hb (nomark _)
theorem de_ge (ha : DE X B W a fa) (hb : DE X B W b fb) : DE X B W (.Compare a [.GtE] [b] pos) (eOp opGe fa fb) := de_cmp op_ge (snd_I0 fun _ _ _ => .bl _) ha hb (nomark _)
/-- products: two ints (one of them small), a tuple or a list again and again -/
def opMul : DD → DD → M DD
  | .int i, .int j => if (decide (i.natAbs < 2 ^ 64) || decide (j.natAbs < 2 ^ 64)) = true then ret (.int (i * j)) else stk
  | .tup xs, .int k => if (!xs.isEmpty && decide (2 ≤ k) && decide (k ≤ 1000) && decide (xs.length ≤ 1000)) = true then ret (.tup (List.replicate k.toNat xs).flatten) else stk
  | .lst xs, .int k => if (decide (0 ≤ k) && decide (k ≤ 1000) && decide (xs.length ≤ 100)) = true then ret (.lst (List.replicate k.toNat xs).flatten) else stk
  | _, _ => stk
def rMulD (K : PySem.W.Frag) : R2 := fun x y H Q => (rI CMul fun i j => .int (i * j)) x y H Q ∨ rRepT K x y H Q ∨ rRep x y H Q
theorem or_mul : OpR X (binaryOp .Mult) (rMulD X.K) := OpR.or op_mul (OpR.or op_repT op_rep)
theorem snd_mul : OpSnd B W (rMulD B.K) opMul := fun env S σ F H sa v w x y k rx ry Q h => by
  cases x with
  | int i =>
    cases y with
    | int j =>
      cases rx.int_inv
      cases ry.int_inv
      obtain ⟨c, h⟩ := post_if h
      simp only [Bool.or_eq_true, decide_eq_true_eq] at c
      refine .inl ⟨i, j, rfl, rfl, ?_, h _ F H k Gw.refl (.int _)⟩
      rcases c with c | c
      · exact .inl (by omega)
      · exact .inr (by omega)
    | _ => exact h.elim
  | tup xs =>
    cases y with
    | int j =>
      cases ry.int_inv
      obtain ⟨p, vs, rfl, h1, h2⟩ := rx.tup_inv
      obtain ⟨c, h⟩ := post_if h
      simp only [Bool.and_eq_true, decide_eq_true_eq, Bool.not_eq_true'] at c
      have hl := h2.length
      refine .inr (.inl ⟨p, j, vs, rfl, rfl, sqT_same k.fh h1, fun e => ?_, c.1.1.2, c.1.2, by omega, good_new k h fun p F' e hp => .tup (SqT.of hp) (RpA.same e _ (h2.rep _))⟩)
      subst e
      cases h2
      exact absurd c.1.1.1 (by decide)
    | _ => exact h.elim
  | lst xs =>
    cases y with
    | int j =>
      cases ry.int_inv
      obtain ⟨p, vs, rfl, h1, h2⟩ := rx.lst_inv
      obtain ⟨c, h⟩ := post_if h
      simp only [Bool.and_eq_true, decide_eq_true_eq] at c
      have hl := h2.length
      refine .inr (.inr ⟨p, j, vs, rfl, rfl, k.fh _ _ h1, by omega, by omega, ?_, good_new k h fun p F' e hp => .lst hp (RpA.same e _ (h2.rep _))⟩)
      have a1 : vs.length * j.toNat ≤ 100 * 1000 := Nat.mul_le_mul (by omega) (by omega)
      rw [sizeLine_eq]
      omega
    | _ => exact h.elim
  | _ => exact h.elim
theorem de_mul (hK : B.K = X.K) (ha : DE X B W a fa) (hb : DE X B W b fb) : DE X B W (.BinOp a .Mult b pos) (eOp opMul fa fb) := de_op or_mul (hK ▸ snd_mul) ha hb
/-- == and != of data -/
def eqOk (d : DD) : Bool := d.pure && SeqAt.shaped d.py
def opEq (x y : DD) : M DD := if (eqOk x && eqOk y) = true then ret (.bl (PyData.eqv x.py y.py)) else stk
def opNe (x y : DD) : M DD := if (eqOk x && eqOk y) = true then ret (.bl (!PyData.eqv x.py y.py)) else stk
theorem dp_of {F H : Hp} {K : PySem.W.Frag} {v : V} {d : DD} (e : Same F H) (h : eqOk d = true) (r : Rp K F v d) : Dp K H v d.py ∧ SeqAt.shaped d.py = true := by
  unfold eqOk at h
  simp only [Bool.and_eq_true] at h
  exact ⟨Rp.dp d h.1 (Rp.same e d r), h.2⟩
theorem snd_eq : OpSnd B W (rEqD B.K) opEq := fun env S σ F H sa v w x y k rx ry Q h => by
  obtain ⟨c, h⟩ := post_if h
  simp only [Bool.and_eq_true] at c
  obtain ⟨d1, s1⟩ := dp_of k.fh c.1 rx
  obtain ⟨d2, s2⟩ := dp_of k.fh c.2 ry
  exact ⟨_, _, d1, d2, s1, s2, h _ F H k Gw.refl (.bl _)⟩
theorem snd_ne : OpSnd B W (rNeD B.K) opNe := fun env S σ F H sa v w x y k rx ry Q h => by
  obtain ⟨c, h⟩ := post_if h
  simp only [Bool.and_eq_true] at c
  obtain ⟨d1, s1⟩ := dp_of k.fh c.1 rx
  obtain ⟨d2, s2⟩ := dp_of k.fh c.2 ry
  exact ⟨_, _, d1, d2, s1, s2, h _ F H k Gw.refl (.bl _)⟩
theorem de_eq {n : Nat} (hK : B.K = X.K) (hr : Room n X.A) (ha : DE X B W a fa) (hb : DE X B W b fb) : DE X B W (.Compare a [.Eq] [b] pos) (eOp opEq fa fb) := de_cmp (op_eqD hr.units) (hK ▸ snd_eq) ha hb (nomark _)
theorem de_ne {n : Nat} (hK : B.K = X.K) (hr : Room n X.A) (ha : DE X B W a fa) (hb : DE X B W b fb) : DE X B W (.Compare a [.NotEq] [b] pos) (eOp opNe fa fb) := de_cmp (op_neD hr.units) (hK ▸ snd_ne) ha hb (nomark _)
/-- is None, is not None; is, is not of truth values -/
def opIs : DD → DD → M DD
  | .raw _, _ => stk
  | .dct _ _, _ => stk
  | .set _, _ => stk
  | .non, .non => ret (.bl true)
  | _, .non => ret (.bl false)
  | _, _ => stk
def opIsNot (x y : DD) : M DD := bnd (opIs x y) fun z => match z with
  | .bl b => ret (.bl (!b))
  | _ => stk
theorem opIs_snd {env : Env} {S : Sr} {σ : L2.St} {F H : Hp} {sa : Option Addr} {v w : V} {x y : DD} {good : DD → Sr → Prop} {bad : Ex → Sr → Prop} (rx : Rp B.K F v x) (ry : Rp B.K F w y) (h : Post good bad (opIs x y S)) : w = .non ∧ good (.bl (decide (v = .non))) S := by
  cases y with
  | non =>
    refine ⟨ry.non_inv, ?_⟩
    cases x with
    | non => cases rx; exact h
    | bl b => cases rx; exact h
    | int i => cases rx; exact h
    | str i => cases rx; exact h
    | lst i => cases rx; exact h
    | tup i => cases rx; exact h
    | raw i => exact h.elim
    | dct _ _ => exact h.elim
    | set _ => exact h.elim
  | _ => cases x <;> exact h.elim
theorem snd_is : OpSnd B W (fun x y H Q => y = .non ∧ Q (.bl (decide (x = .non))) H) opIs := fun env S σ F H sa v w x y k rx ry Q h => by
  obtain ⟨e, g⟩ := opIs_snd (env := env) (σ := σ) (H := H) (sa := sa) rx ry h
  exact ⟨e, g _ F H k Gw.refl (.bl _)⟩
theorem snd_isnot : OpSnd B W (fun x y H Q => y = .non ∧ Q (.bl (!decide (x = .non))) H) opIsNot := fun env S σ F H sa v w x y k rx ry Q h => by
  obtain ⟨e, g⟩ := opIs_snd (env := env) (σ := σ) (H := H) (sa := sa) rx ry (Post.bnd h)
  exact ⟨e, g _ F H k Gw.refl (.bl _)⟩
theorem de_isN (ha : DE X B W a fa) (hb : DE X B W b fb) : DE X B W (.Compare a [.Is] [b] pos) (eOp opIs fa fb) := de_cmp op_isN snd_is ha hb (nomark _)
theorem de_notN (ha : DE X B W a fa) (hb : DE X B W b fb) : DE X B W (.Compare a [.IsNot] [b] pos) (eOp opIsNot fa fb) := de_cmp op_notN snd_isnot ha hb (nomark _)

/-! ### subscripts, slices -/
def ofO {α : Type} : Option α → M α
  | some x => ret x
  | none => stk
theorem post_ofO {α : Type} {good : α → Sr → Prop} {bad : Ex → Sr → Prop} {o : Option α} {S : Sr} (h : Post good bad (ofO o S)) : ∃ d, o = some d ∧ good d S := by
  cases o with
  | none => exact h.elim
  | some d => exact ⟨d, rfl, h⟩
def getDD (ks vs : List DD) (y : DD) : M DD := match keyD y with
  | some k => ofO (findD k ks vs)
  | none => stk
def opIx : DD → DD → M DD
  | .lst xs, .int i => ofO (atI xs i)
  | .tup xs, .int i => ofO (atI xs i)
  | .str z, .int i => if szOk z.length = true then ofO ((atI z.cps.toList i).map fun c => .str ⟨#[c]⟩) else stk
  | .dct ks vs, y => getDD ks vs y
  | _, _ => stk
theorem opIx_dct (ks vs : List DD) (y : DD) : opIx (.dct ks vs) y = getDD ks vs y := by cases y <;> rfl
def rIxX (K : PySem.W.Frag) : R2 := fun x y H Q => ∃ a v, x = .ref a ∧ DXG K H a y (some v) ∧ Q v H
theorem ix_dx (hu : X.A.units + 64 < cLine) : IxR X (rIxX X.K) := by
  intro value slice pins s σ H x y v u Q I rx ry h hs
  obtain ⟨a, z, rfl, g, q⟩ := h
  obtain rfl : v = Value.ref a := rx
  obtain ⟨xs, b, k, hd, _⟩ := id g
  have hT : s.TypeIs (.ref a) "dict" := dx_typeIs I hd
  unfold subscriptTail
  refine wpAny_bind ?_
  rw [getitemInPython_of_ne hT.not_modules]
  refine wpAny_bind (wpAny_specialOf hT PySem.F.slot_dict_getitem.lookup ?_)
  have fin : wpAny (model X.prog X.w) X.A (subscripted slice false (.ref a) u) (fun r s₃ => wpAny (model X.prog X.w) X.A (letTemporaryGo value (.ref a) r >>= fun _ => pure r) (EP X pins σ Q) X.xe s₃) X.xe s := by
    rw [hs]
    exact wpAny_operating (dx_getItem hu I g ry fun w' s3 I3 rw' => wpAny_bind (wpAny_letTemporaryGo (wpAny_pure ⟨z, H, I3, rw', q⟩)))
  first
    | exact wpAny_pure (wpAny_bind fin)
    | exact wpAny_bind (wpAny_pure (wpAny_bind fin))
    | exact wpAny_bind fin
def rIxA (K : PySem.W.Frag) : R2 := fun x y H Q => rIx K x y H Q ∨ rIxX K x y H Q
theorem ix_any (hu : X.A.units + 64 < cLine) : IxR X (rIxA X.K) := ix_seq.or (ix_dx hu)
theorem dxg_of {K : PySem.W.Frag} {F H : Hp} (e : Same F H) {a : Addr} {o : Obj} {xs : List DEnt} {ks vs : List DD} {w : V} {y : DD} {k : NestedKey} (h1 : F a = some (.frz o (dxO a xs))) (m : MpOk K F xs ks vs) (ry : Rp K F w y) (hk : keyD y = some k) :
    (findD k ks vs = none ∧ DXG K H a w none) ∨ ∃ v d, findD k ks vs = some d ∧ DXG K H a w (some v) ∧ Rp K F v d := by
  obtain ⟨b, rfl, kx⟩ := key_of e ry hk
  rcases m.find k with ⟨e1, e2⟩ | ⟨v, d, e1, e2, r⟩
  · exact .inl ⟨e2, xs, b, k, .inr ⟨o, e _ _ h1⟩, m.keys e, rfl, kx, e1⟩
  · exact .inr ⟨v, d, e2, ⟨xs, b, k, .inr ⟨o, e _ _ h1⟩, m.keys e, rfl, kx, e1⟩, r⟩
theorem RpA.atI {K : PySem.W.Frag} {F : Hp} {vs : List V} {ds : List DD} {i : Int} {d : DD} (r : RpA K F vs ds) (h : L2.atI ds i = some d) : ∃ v, L2.atI vs i = some v ∧ Rp K F v d := by
  unfold L2.atI at h ⊢
  rw [r.length]
  cases e : ixN ds.length i with
  | none => rw [e] at h; cases h
  | some j =>
    rw [e] at h
    exact r.get h
theorem snd_ix : OpSnd B W (rIxA B.K) opIx := fun env S σ F H sa v w x y k rx ry Q h => by
  cases x with
  | lst xs =>
    cases y with
    | int i =>
      cases ry.int_inv
      obtain ⟨p, vs, rfl, h1, h2⟩ := rx.lst_inv
      obtain ⟨d, e, h⟩ := post_ofO h
      obtain ⟨z, hz, rz⟩ := h2.atI e
      exact .inl (.inl ⟨p, vs, i, z, rfl, rfl, SqL.of (k.fh _ _ h1), hz, h _ F H k Gw.refl rz⟩)
    | _ => exact h.elim
  | tup xs =>
    cases y with
    | int i =>
      cases ry.int_inv
      obtain ⟨p, vs, rfl, h1, h2⟩ := rx.tup_inv
      obtain ⟨d, e, h⟩ := post_ofO h
      obtain ⟨z, hz, rz⟩ := h2.atI e
      exact .inl (.inr (.inl ⟨p, vs, i, z, rfl, rfl, sqT_same k.fh h1, hz, h _ F H k Gw.refl rz⟩))
    | _ => exact h.elim
  | str z =>
    cases y with
    | int i =>
      cases ry.int_inv
      cases rx.str_inv
      obtain ⟨c, h⟩ := post_if h
      obtain ⟨d, e, h⟩ := post_ofO h
      cases e2 : L2.atI z.cps.toList i with
      | none => rw [e2] at e; cases e
      | some c2 =>
        rw [e2] at e
        cases e
        exact .inl (.inr (.inr ⟨z, i, c2, rfl, rfl, szOk.le c, e2, h _ F H k Gw.refl (.str _)⟩))
    | _ => exact h.elim
  | dct ks vs =>
    obtain ⟨a, o, xs, rfl, h1, h2, h3, h4⟩ := rx.dct_inv
    rw [opIx_dct] at h
    unfold getDD at h
    cases q : keyD y with
    | none => rw [q] at h; exact h.elim
    | some kk =>
      rw [q] at h
      obtain ⟨d, e, h⟩ := post_ofO h
      rcases dxg_of k.fh h1 ⟨h2, h3, h4⟩ ry q with ⟨e1, _⟩ | ⟨z, d', e1, g, rz⟩
      · rw [e] at e1; cases e1
      · rw [e] at e1
        cases e1
        exact .inr ⟨a, z, rfl, g, h _ F H k Gw.refl rz⟩
  | _ => exact h.elim
theorem de_ix {n : Nat} (hK : B.K = X.K) (hr : Room n X.A) (ha : DE X B W a fa) (hb : DE X B W b fb) (hs : PlainIx b := by exact fun _ _ => rfl) : DE X B W (.Subscript a b pos) (eOp opIx fa fb) := by
  obtain ⟨ta, pa, sa⟩ := ha.ex
  obtain ⟨tb, pb, sb⟩ := hb.ex
  exact ⟨_, pe_ix (ix_any hr.units) pa pb hs, sndE_op (hK ▸ snd_ix) sa sb⟩
end
end AU
namespace AU
open PySem PySem.Spec PyProof.Rows L2

/-! ### argument lists, displays -/
def aNil : Env → M (List DD) := fun _ => ret []
def aCons (f : Env → M DD) (r : Env → M (List DD)) : Env → M (List DD) := fun env => bnd (f env) fun x => bnd (r env) fun xs => ret (x :: xs)
section
variable {B : Bs} {W : WX} {X : Cx} {a b c e : Expr} {es : List Expr} {fa fb fc : Env → M DD} {fr : Env → M (List DD)} {pos : Pos} {ta tb tc : TE} {tr : TA}
theorem sndA_nil : SndA B W tNil aNil := fun env S σ F H sa k Q h => h [] F H k Gw.refl .nil
theorem sndA_cons (ha : SndE B W ta fa) (hr : SndA B W tr fr) : SndA B W (tCons ta tr) (aCons fa fr) := fun env S σ F H sa k Q h =>
  ha env S σ F H sa k _ ((Post.bnd h).imp fun x S1 h1 v F1 H1 k1 s1 r1 =>
    hr env S1 σ F1 H1 sa k1 _ ((Post.bnd (h1.sameL s1)).imp fun xs S2 h2 vs F2 H2 k2 s2 r2 => h2 (v :: vs) F2 H2 k2 s2 (.cons (Rp.same s2.ff x r1) r2)))
theorem da_nil : DA X B W [] aNil := ⟨_, pa_nil, sndA_nil⟩
theorem da_cons (ha : DE X B W e fa) (hr : DA X B W es fr) (hs : starEach (e :: es) X.env = (false, eval e X.env) :: starEach es X.env := by rfl) : DA X B W (e :: es) (aCons fa fr) := by
  obtain ⟨ta, pa, sa⟩ := ha.ex
  obtain ⟨tr, pr, sr⟩ := hr.ex
  exact ⟨_, pa_cons pa pr hs, sndA_cons sa sr⟩
def eTup (f : Env → M (List DD)) : Env → M DD := fun env => bnd (f env) fun ds => if szOk ds.length = true then ret (.tup ds) else stk
def eLst (f : Env → M (List DD)) : Env → M DD := fun env => bnd (f env) fun ds => if szOk ds.length = true then ret (.lst ds) else stk
theorem good_sameF {env : Env} {S : Sr} {σ : L2.St} {F H F1 H1 : Hp} {sa : Option Addr} {Q : VK} {d : DD} {o : HO} (s1 : Gw B sa F H F1 H1) (k : Ok B env S σ F1 H1 sa) (g : Good B env σ F H sa Q d S) (hr : ∀ p F', Same F1 F' → F' p = some o → Rp B.K F' (.ref p) d) (ho : ∀ ps, o ≠ .tbl ps := by intro ps z; cases z) : ∀ p, H1 p = none → Q (.ref p) (upd H1 p o) :=
  good_new k (Good.of s1 g) hr ho
theorem sndE_tup (h : SndA B W tr fr) : SndE B W (tTup tr) (eTup fr) := fun env S σ F H sa k Q hq =>
  h env S σ F H sa k _ ((Post.bnd hq).imp fun ds S1 h1 vs F1 H1 k1 s1 r1 => by
    obtain ⟨c, g⟩ := post_if h1
    exact ⟨by rw [r1.length]; exact szOk.le c, good_sameF s1 k1 g fun p F' e hp => .tup (SqT.of hp) (RpA.same e _ r1)⟩)
theorem sndE_lst (h : SndA B W tr fr) : SndE B W (tLst tr) (eLst fr) := fun env S σ F H sa k Q hq =>
  h env S σ F H sa k _ ((Post.bnd hq).imp fun ds S1 h1 vs F1 H1 k1 s1 r1 => by
    obtain ⟨c, g⟩ := post_if h1
    exact ⟨by rw [r1.length]; exact szOk.le c, good_sameF s1 k1 g fun p F' e hp => .lst hp (RpA.same e _ r1)⟩)
theorem de_tup {x1} (h : DA X B W es fr) : DE X B W (.Tuple es x1 pos) (eTup fr) := by
  obtain ⟨t, p, s⟩ := h.ex
  exact ⟨_, pe_tup p, sndE_tup s⟩
theorem de_lst (h : DA X B W es fr) : DE X B W (.List es pos) (eLst fr) := by
  obtain ⟨t, p, s⟩ := h.ex
  exact ⟨_, pe_lst p, sndE_lst s⟩

/-! ### slices -/
def GoodO (B : Bs) (env : Env) (σ : L2.St) (F H : Hp) (sa : Option Addr) (Q : Option Int → Hp → Prop) : Option Int → Sr → Prop := fun o S => ∀ F' H', Ok B env S σ F' H' sa → Gw B sa F H F' H' → Q o H'
def SndO (B : Bs) (W : WX) (to : TO) (f : Env → M (Option Int)) : Prop := ∀ env S σ F H sa, Ok B env S σ F H sa → ∀ Q : Option Int → Hp → Prop, Post (GoodO B env σ F H sa Q) (Bad B W env σ F H sa) (f env S) → to σ H Q
structure DO (X : Cx) (B : Bs) (W : WX) (e : Option Expr) (f : Env → M (Option Int)) : Prop where
  ex : ∃ t, PO X e t ∧ SndO B W t f
def oNo : Env → M (Option Int) := fun _ => ret none
def oSome (f : Env → M DD) : Env → M (Option Int) := fun env => bnd (f env) fun d => match d with
  | .int i => ret (some i)
  | _ => stk
theorem do_no : DO X B W none oNo := ⟨_, po_none, fun env S σ F H sa k Q h => h F H k Gw.refl⟩
theorem do_some (h : DE X B W e fa) : DO X B W (some e) (oSome fa) := by
  obtain ⟨t, p, s⟩ := h.ex
  refine ⟨_, po_some p, fun env S σ F H sa k Q hq => s env S σ F H sa k _ ((Post.bnd hq).imp fun d S1 h1 v F1 H1 k1 s1 r1 => ?_)⟩
  cases d with
  | int i =>
    cases r1.int_inv
    exact ⟨i, rfl, h1 F1 H1 k1 s1⟩
  | _ => exact h1.elim
def cutD {α : Type} (xs : List α) (lo hi : Option Int) : List α := (xs.drop (HT.sIx xs.length 0 lo)).take (HT.sIx xs.length xs.length hi - HT.sIx xs.length 0 lo)
theorem RpA.cut {K : PySem.W.Frag} {F : Hp} {vs : List V} {ds : List DD} (r : RpA K F vs ds) (lo hi : Option Int) : RpA K F (cutV vs lo hi) (cutD ds lo hi) := by
  unfold cutV cutD
  rw [r.length]
  exact (r.drop _).take _
def opSl (x : DD) (lo hi : Option Int) : M DD := match x with
  | .lst xs => ret (.lst (cutD xs lo hi))
  | .tup xs => ret (.tup (cutD xs lo hi))
  | .str z => if szOk z.length = true then ret (.str (cutS z lo hi)) else stk
  | _ => stk
def rSlAll (K : PySem.W.Frag) : V → Option Int → Option Int → Hp → VK → Prop := fun x lo hi H Q => rSlL K x lo hi H Q ∨ (rSlA K x lo hi H Q ∨ rSlS x lo hi H Q)
theorem sl_all : SlR X (rSlAll X.K) := SlR.or sl_list (SlR.or sl_tupA sl_str)
theorem sIx_full {α : Type} {xs : List α} {lo hi : Option Int} (h : HT.sIx xs.length 0 lo = 0 ∧ HT.sIx xs.length xs.length hi = xs.length) : cutD xs lo hi = xs := by
  unfold cutD
  rw [h.1, h.2]
  simp
theorem snd_sl {env : Env} {S : Sr} {σ : L2.St} {F H : Hp} {sa : Option Addr} {v : V} {x : DD} {lo hi : Option Int} {Q : VK} (k : Ok B env S σ F H sa) (rx : Rp B.K F v x) (h : Post (Good B env σ F H sa Q) (Bad B W env σ F H sa) (opSl x lo hi S)) : rSlAll B.K v lo hi H Q := by
  cases x with
  | lst xs =>
    obtain ⟨p, vs, rfl, h1, h2⟩ := rx.lst_inv
    exact .inl ⟨p, vs, rfl, SqL.of (k.fh _ _ h1), good_new k h fun p F' e hp => .lst hp (RpA.same e _ (h2.cut lo hi))⟩
  | tup xs =>
    obtain ⟨p, vs, rfl, h1, h2⟩ := rx.tup_inv
    refine .inr (.inl ⟨p, vs, rfl, sqT_same k.fh h1, fun hw => ?_, fun hw => good_new k h fun p F' e hp => .tup (SqT.of hp) (RpA.same e _ (h2.cut lo hi))⟩)
    have e : cutD xs lo hi = xs := sIx_full (by rw [← h2.length]; exact hw)
    refine h _ F H k Gw.refl ?_
    rw [e]
    exact .tup h1 h2
  | str z =>
    cases rx.str_inv
    obtain ⟨c, h⟩ := post_if h
    exact .inr (.inr ⟨z, rfl, szOk.le c, h _ F H k Gw.refl (.str _)⟩)
  | _ => exact h.elim
def eSl (f : Env → M DD) (lo hi : Env → M (Option Int)) : Env → M DD := fun env => bnd (f env) fun x => bnd (lo env) fun l => bnd (hi env) fun h => opSl x l h
theorem de_slice (hK : B.K = X.K) {lo hi : Option Expr} {fl fh : Env → M (Option Int)} {p2 : Pos} (he : DE X B W e fa) (hl : DO X B W lo fl) (hh : DO X B W hi fh) : DE X B W (.Subscript e (.Slice lo hi none p2) pos) (eSl fa fl fh) := by
  obtain ⟨t, p, s⟩ := he.ex
  obtain ⟨t1, p1, s1⟩ := hl.ex
  obtain ⟨t2, p2, s2⟩ := hh.ex
  refine ⟨_, pe_slice sl_all p p1 p2, fun env S σ F H sa k Q hq => s env S σ F H sa k _ ((Post.bnd hq).imp fun x S1 h1 v F1 H1 k1 e1 r1 => ?_)⟩
  refine s1 env S1 σ F1 H1 sa k1 _ ((Post.bnd (h1.same e1)).imp fun l S2 h2 F2 H2 k2 e2 => ?_)
  refine s2 env S2 σ F2 H2 sa k2 _ ((Post.bnd (h2.same e2)).imp fun u S3 h3 F3 H3 k3 e3 => ?_)
  rw [← hK]
  exact snd_sl (W := W) k3 (Rp.same (e2.trans e3).ff x r1) (h3.same e3)

/-! ### calls of built-ins -/
def CSnd (B : Bs) (W : WX) (r : List V → Hp → VK → Prop) (f : List DD → M DD) : Prop := ∀ env S σ F H sa vs ds, Ok B env S σ F H sa → RpA B.K F vs ds → ∀ Q : VK, Post (Good B env σ F H sa Q) (Bad B W env σ F H sa) (f ds S) → r vs H Q
def eB (f : List DD → M DD) (as : Env → M (List DD)) : Env → M DD := fun env => bnd (as env) f
theorem sndE_cb {r : List V → Hp → VK → Prop} {f : List DD → M DD} (hs : CSnd B W r f) (h : SndA B W tr fr) : SndE B W (tCB r tr) (eB f fr) := fun env S σ F H sa k Q hq =>
  h env S σ F H sa k _ ((Post.bnd hq).imp fun ds S1 h1 vs F1 H1 k1 s1 r1 => hs env S1 σ F1 H1 sa vs ds k1 r1 Q (h1.same s1))
theorem de_cb {id : String} {x : Str} {p : Pos} {r : List V → Hp → VK → Prop} {f : List DD → M DD} (hc : CallR X (.builtin id) r) (hs : CSnd B W r f) (hm : X.mg x = none) (ha : DA X B W (e :: es) fr) (hg : Gl X x := by rfl) (hv : bootBuiltins x = some (.builtin id) := by decide +kernel) (hn : x ≠ "__name__" := by decide) (hdb : (x == ("__debug__" : Str)) = false := by decide)
    (he : starEach (e :: es) X.env = (false, eval e X.env) :: starEach es X.env := by rfl) (hpl : (backTo pos (starEach es X.env)).any (·.1) = false := by rfl) : DE X B W (.Call (.Name x p) (e :: es) [] pos) (eB f fr) := by
  obtain ⟨t, pp, s⟩ := ha.ex
  exact ⟨_, pe_callB hc hg hm hv pp hn hdb he hpl, sndE_cb hs s⟩
theorem de_ct {T : String} {x : Str} {p : Pos} {r : List V → Hp → VK → Prop} {f : List DD → M DD} (hc : CallR X (.type T) r) (hs : CSnd B W r f) (hm : X.mg x = none) (ha : DA X B W (e :: es) fr) (hg : Gl X x := by rfl) (hv : bootBuiltins x = some (.type T) := by decide +kernel) (hn : x ≠ "__name__" := by decide) (hdb : (x == ("__debug__" : Str)) = false := by decide)
    (he : starEach (e :: es) X.env = (false, eval e X.env) :: starEach es X.env := by rfl) (hpl : (backTo pos (starEach es X.env)).any (·.1) = false := by rfl) : DE X B W (.Call (.Name x p) (e :: es) [] pos) (eB f fr) := by
  obtain ⟨t, pp, s⟩ := ha.ex
  exact ⟨_, pe_callTy hc hg hm hv pp hn hdb he hpl, sndE_cb hs s⟩
def bLen : List DD → M DD
  | [.str z] => if szOk z.length = true then ret (.int z.length) else stk
  | [.lst xs] => ret (.int xs.length)
  | [.tup xs] => ret (.int xs.length)
  | _ => stk
theorem rpa1 {K : PySem.W.Frag} {F : Hp} {vs : List V} {d : DD} (r : RpA K F vs [d]) : ∃ v, vs = [v] ∧ Rp K F v d := by
  cases r with
  | cons h1 h2 =>
    cases h2
    exact ⟨_, rfl, h1⟩
theorem rpa2 {K : PySem.W.Frag} {F : Hp} {vs : List V} {d d' : DD} (r : RpA K F vs [d, d']) : ∃ v w, vs = [v, w] ∧ Rp K F v d ∧ Rp K F w d' := by
  cases r with
  | cons h1 h2 =>
    obtain ⟨w, rfl, h3⟩ := rpa1 h2
    exact ⟨_, _, rfl, h1, h3⟩
theorem snd_len : CSnd B W (fun xs H Q => ∃ x n, xs = [x] ∧ LenV B.K x H n ∧ Q (.int n) H) bLen := fun env S σ F H sa vs ds k r Q h => by
  match ds, r, h with
  | [.str z], r, h =>
    obtain ⟨v, rfl, r1⟩ := rpa1 r
    cases r1.str_inv
    obtain ⟨c, h⟩ := post_if h
    exact ⟨_, z.length, rfl, ⟨szOk.le c, rfl⟩, h _ F H k Gw.refl (.int _)⟩
  | [.lst xs], r, h =>
    obtain ⟨v, rfl, r1⟩ := rpa1 r
    obtain ⟨p, vs, rfl, h1, h2⟩ := r1.lst_inv
    exact ⟨_, xs.length, rfl, .inl ⟨vs, SqL.of (k.fh _ _ h1), by rw [h2.length]⟩, h _ F H k Gw.refl (.int _)⟩
  | [.tup xs], r, h =>
    obtain ⟨v, rfl, r1⟩ := rpa1 r
    obtain ⟨p, vs, rfl, h1, h2⟩ := r1.tup_inv
    exact ⟨_, xs.length, rfl, .inr ⟨vs, sqT_same k.fh h1, by rw [h2.length]⟩, h _ F H k Gw.refl (.int _)⟩
  | [], r, h => exact h.elim
  | [.non], r, h => exact h.elim
  | [.bl _], r, h => exact h.elim
  | [.int _], r, h => exact h.elim
  | [.raw _], r, h => exact h.elim
  | [.dct _ _], r, h => exact h.elim
  | [.set _], r, h => exact h.elim
  | x :: _ :: _, r, h => cases x <;> exact h.elim
theorem de_len (hK : B.K = X.K) {p : Pos} (hm : X.mg "len" = none) (ha : DA X B W [e] fr) (hg : Gl X "len" := by rfl)
    (he : starEach [e] X.env = (false, eval e X.env) :: starEach [] X.env := by rfl) (hpl : (backTo pos (starEach [] X.env)).any (·.1) = false := by rfl) : DE X B W (.Call (.Name "len" p) [e] [] pos) (eB bLen fr) :=
  de_cb call_len (hK ▸ snd_len) hm ha hg PySem.boot_len (by decide) (by decide) he hpl
def bInt : List DD → M DD
  | [.int i] => ret (.int i)
  | [.bl b] => ret (.int (if b then 1 else 0))
  | _ => stk
theorem snd_int : CSnd B W (fun xs H Q => (∃ i, xs = [.int i] ∧ Q (.int i) H) ∨ ∃ k, xs = [.bl k] ∧ Q (.int (if k then 1 else 0)) H) bInt := fun env S σ F H sa vs ds k r Q h => by
  match ds, r, h with
  | [.int i], r, h =>
    obtain ⟨v, rfl, r1⟩ := rpa1 r
    cases r1.int_inv
    exact .inl ⟨_, rfl, h _ F H k Gw.refl (.int _)⟩
  | [.bl i], r, h =>
    obtain ⟨v, rfl, r1⟩ := rpa1 r
    cases r1.bl_inv
    exact .inr ⟨_, rfl, h _ F H k Gw.refl (.int _)⟩
  | [], r, h => exact h.elim
  | [.non], r, h => exact h.elim
  | [.str _], r, h => exact h.elim
  | [.lst _], r, h => exact h.elim
  | [.tup _], r, h => exact h.elim
  | [.raw _], r, h => exact h.elim
  | [.dct _ _], r, h => exact h.elim
  | [.set _], r, h => exact h.elim
  | x :: _ :: _, r, h => cases x <;> exact h.elim
theorem de_int1 {p : Pos} (hm : X.mg "int" = none) (ha : DA X B W [e] fr) (hg : Gl X "int" := by rfl)
    (he : starEach [e] X.env = (false, eval e X.env) :: starEach [] X.env := by rfl) (hpl : (backTo pos (starEach [] X.env)).any (·.1) = false := by rfl) : DE X B W (.Call (.Name "int" p) [e] [] pos) (eB bInt fr) :=
  de_ct call_int1 snd_int hm ha hg (by decide +kernel) (by decide) (by decide) he hpl
def bAbs : List DD → M DD
  | [.int i] => ret (.int (if i < 0 then -i else i))
  | _ => stk
theorem snd_abs : CSnd B W (fun xs H Q => ∃ i, xs = [.int i] ∧ Q (.int (if i < 0 then -i else i)) H) bAbs := fun env S σ F H sa vs ds k r Q h => by
  match ds, r, h with
  | [.int i], r, h =>
    obtain ⟨v, rfl, r1⟩ := rpa1 r
    cases r1.int_inv
    exact ⟨_, rfl, h _ F H k Gw.refl (.int _)⟩
  | [], r, h => exact h.elim
  | [.non], r, h => exact h.elim
  | [.bl _], r, h => exact h.elim
  | [.str _], r, h => exact h.elim
  | [.lst _], r, h => exact h.elim
  | [.tup _], r, h => exact h.elim
  | [.raw _], r, h => exact h.elim
  | [.dct _ _], r, h => exact h.elim
  | [.set _], r, h => exact h.elim
  | x :: _ :: _, r, h => cases x <;> exact h.elim
theorem de_abs {p : Pos} (hm : X.mg "abs" = none) (ha : DA X B W [e] fr) (hg : Gl X "abs" := by rfl)
    (he : starEach [e] X.env = (false, eval e X.env) :: starEach [] X.env := by rfl) (hpl : (backTo pos (starEach [] X.env)).any (·.1) = false := by rfl) : DE X B W (.Call (.Name "abs" p) [e] [] pos) (eB bAbs fr) :=
  de_cb call_abs snd_abs hm ha hg (by decide +kernel) (by decide) (by decide) he hpl
def b2I (g : Int → Int → Int) : List DD → M DD
  | [.int i, .int j] => ret (.int (g i j))
  | _ => stk
theorem snd_2I {g : Int → Int → Int} : CSnd B W (fun xs H Q => ∃ i j, xs = [.int i, .int j] ∧ Q (.int (g i j)) H) (b2I g) := fun env S σ F H sa vs ds k r Q h => by
  unfold b2I at h
  split at h
  · obtain ⟨v, w, rfl, r1, r2⟩ := rpa2 r
    cases r1.int_inv
    cases r2.int_inv
    exact ⟨_, _, rfl, h _ F H k Gw.refl (.int _)⟩
  · exact h.elim
theorem de_min {e2 : Expr} {p : Pos} (hc : X.calm = true) (hm : X.mg "min" = none) (ha : DA X B W [e, e2] fr) (hg : Gl X "min" := by rfl)
    (he : starEach [e, e2] X.env = (false, eval e X.env) :: starEach [e2] X.env := by rfl) (hpl : (backTo pos (starEach [e2] X.env)).any (·.1) = false := by rfl) : DE X B W (.Call (.Name "min" p) [e, e2] [] pos) (eB (b2I fun i j => if j < i then j else i) fr) :=
  de_cb (call_min2 hc) snd_2I hm ha hg (by decide +kernel) (by decide) (by decide) he hpl
theorem de_max {e2 : Expr} {p : Pos} (hc : X.calm = true) (hm : X.mg "max" = none) (ha : DA X B W [e, e2] fr) (hg : Gl X "max" := by rfl)
    (he : starEach [e, e2] X.env = (false, eval e X.env) :: starEach [e2] X.env := by rfl) (hpl : (backTo pos (starEach [e2] X.env)).any (·.1) = false := by rfl) : DE X B W (.Call (.Name "max" p) [e, e2] [] pos) (eB (b2I fun i j => if j > i then j else i) fr) :=
  de_cb (call_max2 hc) snd_2I hm ha hg (by decide +kernel) (by decide) (by decide) he hpl
/-- all, any of truth values -/
def blsOf : List DD → Option (List Bool)
  | [] => some []
  | .bl b :: r => (blsOf r).map (b :: ·)
  | _ => none
theorem RpA.bls {K : PySem.W.Frag} {F : Hp} : ∀ {vs : List V} {ds : List DD} {bs : List Bool}, RpA K F vs ds → blsOf ds = some bs → vs = bs.map V.bl
  | _, [], bs, .nil, h => by cases h; rfl
  | _, d :: ds, bs, .cons h1 h2, h => by
    cases d with
    | bl b =>
      have h : (blsOf ds).map (b :: ·) = some bs := h
      cases e : blsOf ds with
      | none => rw [e] at h; cases h
      | some cs =>
        rw [e] at h
        cases h
        cases h1.bl_inv
        rw [RpA.bls h2 e]
        rfl
    | _ => cases h
def bAll : List DD → M DD
  | [.lst xs] => match blsOf xs with
    | some bs => ret (.bl (bs.all id))
    | none => stk
  | _ => stk
def bAny : List DD → M DD
  | [.lst xs] => match blsOf xs with
    | some bs => ret (.bl (bs.any id))
    | none => stk
  | _ => stk
theorem snd_all : CSnd B W (rAll B.K) bAll := fun env S σ F H sa vs ds k r Q h => by
  unfold bAll at h
  split at h
  · rename_i xs
    obtain ⟨v, rfl, r1⟩ := rpa1 r
    obtain ⟨p, ws, rfl, h1, h2⟩ := r1.lst_inv
    cases e : blsOf xs with
    | none => rw [e] at h; exact h.elim
    | some bs =>
      rw [e] at h
      refine ⟨p, bs, rfl, ?_, h _ F H k Gw.refl (.bl _)⟩
      rw [← h2.bls e]
      exact SqL.of (k.fh _ _ h1)
  · exact h.elim
theorem snd_any : CSnd B W (rAny B.K) bAny := fun env S σ F H sa vs ds k r Q h => by
  unfold bAny at h
  split at h
  · rename_i xs
    obtain ⟨v, rfl, r1⟩ := rpa1 r
    obtain ⟨p, ws, rfl, h1, h2⟩ := r1.lst_inv
    cases e : blsOf xs with
    | none => rw [e] at h; exact h.elim
    | some bs =>
      rw [e] at h
      refine ⟨p, bs, rfl, ?_, h _ F H k Gw.refl (.bl _)⟩
      rw [← h2.bls e]
      exact SqL.of (k.fh _ _ h1)
  · exact h.elim
theorem de_all (hK : B.K = X.K) {p : Pos} (hc : X.calm = true) (hm : X.mg "all" = none) (ha : DA X B W [e] fr) (hg : Gl X "all" := by rfl)
    (he : starEach [e] X.env = (false, eval e X.env) :: starEach [] X.env := by rfl) (hpl : (backTo pos (starEach [] X.env)).any (·.1) = false := by rfl) : DE X B W (.Call (.Name "all" p) [e] [] pos) (eB bAll fr) :=
  de_cb (cr_all hc) (hK ▸ snd_all) hm ha hg (by decide +kernel) (by decide) (by decide) he hpl
theorem de_any (hK : B.K = X.K) {p : Pos} (hc : X.calm = true) (hm : X.mg "any" = none) (ha : DA X B W [e] fr) (hg : Gl X "any" := by rfl)
    (he : starEach [e] X.env = (false, eval e X.env) :: starEach [] X.env := by rfl) (hpl : (backTo pos (starEach [] X.env)).any (·.1) = false := by rfl) : DE X B W (.Call (.Name "any" p) [e] [] pos) (eB bAny fr) :=
  de_cb (cr_any hc) (hK ▸ snd_any) hm ha hg (by decide +kernel) (by decide) (by decide) he hpl
/-- tuple(x), list(x) -/
def bTuple : List DD → M DD
  | [.lst xs] => ret (.tup xs)
  | [.tup xs] => ret (.tup xs)
  | _ => stk
def bList : List DD → M DD
  | [.lst xs] => ret (.lst xs)
  | [.tup xs] => ret (.lst xs)
  | [.dct ks _] => ret (.lst ks)
  | _ => stk
theorem CallR.or {X : Cx} {f : Value} {r r' : List V → Hp → VK → Prop} (h : CallR X f r) (h' : CallR X f r') : CallR X f (fun xs H Q => r xs H Q ∨ r' xs H Q) := by
  intro pins s σ H xs us Q I rx hh
  rcases hh with q | q
  · exact h pins s σ H xs us Q I rx q
  · exact h' pins s σ H xs us Q I rx q
theorem snd_tuple : CSnd B W (fun xs H Q => ∃ p ys, xs = [.ref p] ∧ ((SqL B.K H p ys ∧ ∀ l, H l = none → Q (.ref l) (upd H l (.tup ys))) ∨ (SqT B.K H p ys ∧ Q (.ref p) H))) bTuple := fun env S σ F H sa vs ds k r Q h => by
  unfold bTuple at h
  split at h
  · obtain ⟨v, rfl, r1⟩ := rpa1 r
    obtain ⟨p, ws, rfl, h1, h2⟩ := r1.lst_inv
    exact ⟨p, ws, rfl, .inl ⟨SqL.of (k.fh _ _ h1), good_new k h fun p F' e hp => .tup (SqT.of hp) (RpA.same e _ h2)⟩⟩
  · obtain ⟨v, rfl, r1⟩ := rpa1 r
    obtain ⟨p, ws, rfl, h1, h2⟩ := id r1.tup_inv
    exact ⟨p, ws, rfl, .inr ⟨sqT_same k.fh h1, h _ F H k Gw.refl r1⟩⟩
  · exact h.elim
theorem snd_list : CSnd B W (fun xs H Q => (∃ p ys, xs = [.ref p] ∧ (SqL B.K H p ys ∨ SqT B.K H p ys) ∧ ∀ l, H l = none → Q (.ref l) (upd H l (.lst ys))) ∨ ∃ d xs', xs = [V.ref d] ∧ Rd H d (dxO d xs') ∧ ∀ p, H p = none → Q (.ref p) (upd H p (.lst (xs'.map fun x => V.ref x.2.1)))) bList := fun env S σ F H sa vs ds k r Q h => by
  unfold bList at h
  split at h
  · obtain ⟨v, rfl, r1⟩ := rpa1 r
    obtain ⟨p, ws, rfl, h1, h2⟩ := r1.lst_inv
    exact .inl ⟨p, ws, rfl, .inl (SqL.of (k.fh _ _ h1)), good_new k h fun p F' e hp => .lst hp (RpA.same e _ h2)⟩
  · obtain ⟨v, rfl, r1⟩ := rpa1 r
    obtain ⟨p, ws, rfl, h1, h2⟩ := r1.tup_inv
    exact .inl ⟨p, ws, rfl, .inr (sqT_same k.fh h1), good_new k h fun p F' e hp => .lst hp (RpA.same e _ h2)⟩
  · obtain ⟨v, rfl, r1⟩ := rpa1 r
    obtain ⟨p, o, es, rfl, h1, h2, h3, h4⟩ := r1.dct_inv
    exact .inr ⟨p, es, rfl, .inr ⟨o, k.fh _ _ h1⟩, good_new k h fun p F' e hp => .lst hp (RpA.same e _ h2)⟩
  · exact h.elim
theorem de_tuple (hK : B.K = X.K) {p : Pos} (hm : X.mg "tuple" = none) (ha : DA X B W [e] fr) (hg : Gl X "tuple" := by rfl)
    (he : starEach [e] X.env = (false, eval e X.env) :: starEach [] X.env := by rfl) (hpl : (backTo pos (starEach [] X.env)).any (·.1) = false := by rfl) : DE X B W (.Call (.Name "tuple" p) [e] [] pos) (eB bTuple fr) :=
  de_ct call_tuple_of (hK ▸ snd_tuple) hm ha hg (by decide +kernel) (by decide) (by decide) he hpl
theorem de_list (hK : B.K = X.K) (hc : X.calm = true) {p : Pos} (hm : X.mg "list" = none) (ha : DA X B W [e] fr) (hg : Gl X "list" := by rfl)
    (he : starEach [e] X.env = (false, eval e X.env) :: starEach [] X.env := by rfl) (hpl : (backTo pos (starEach [] X.env)).any (·.1) = false := by rfl) : DE X B W (.Call (.Name "list" p) [e] [] pos) (eB bList fr) :=
  de_ct (CallR.or call_list_of (call_list_dX hc)) (hK ▸ snd_list) hm ha hg (by decide +kernel) (by decide) (by decide) he hpl
/-- isinstance with a built-in type -/
def tyName : DD → Option String
  | .non => some "NoneType"
  | .bl _ => some "bool"
  | .int _ => some "int"
  | .str _ => some "str"
  | .lst _ => some "list"
  | .tup _ => some "tuple"
  | _ => none
def bIsi : List DD → M DD
  | [x, .raw (.ty n)] => match tyName x with
    | some t => match kitB t n with
      | some b => ret (.bl b)
      | none => stk
    | none => stk
  | _ => stk
theorem tyX_of {K : PySem.W.Frag} {F H : Hp} {v : V} {x : DD} {t : String} (fh : Same F H) (r : Rp K F v x) (h : tyName x = some t) : TyX K H v (.type t) := by
  cases x with
  | non => cases h; cases r; exact .base .non
  | bl b => cases h; cases r; exact .base (.bl b)
  | int b => cases h; cases r; exact .base (.int b)
  | str b => cases h; cases r; exact .base (.str b)
  | lst xs =>
    cases h
    obtain ⟨p, ws, rfl, h1, h2⟩ := r.lst_inv
    exact .base (.lst (fh _ _ h1))
  | tup xs =>
    cases h
    obtain ⟨p, ws, rfl, h1, h2⟩ := r.tup_inv
    rcases h1 with (h1 | ⟨o, h1⟩) | ⟨o, its, n, e1, e2, _⟩
    · exact .base (.tup (fh _ _ h1))
    · exact .fTuple (fh _ _ h1)
    · exact .kTuple e1 e2
  | _ => cases h
theorem snd_isi : CSnd B W (rIsi B.K) bIsi := fun env S σ F H sa vs ds k r Q h => by
  unfold bIsi at h
  split at h
  · rename_i x n
    obtain ⟨v, w, rfl, r1, r2⟩ := rpa2 r
    cases r2.raw_inv
    cases e : tyName x with
    | none => rw [e] at h; exact h.elim
    | some t =>
      rw [e] at h
      cases e2 : kitB t n with
      | none =>
        simp only [e2] at h
        exact h.elim
      | some b =>
        simp only [e2] at h
        exact ⟨v, .ty n, .type t, .type n, b, rfl, .ty n, tyX_of k.fh r1 e, kit_ty e2, h _ F H k Gw.refl (.bl _)⟩
  · exact h.elim
theorem de_ty {x : Str} {n : String} (hm : X.mg x = none) (hg : Gl X x := by rfl) (hv : bootBuiltins x = some (.type n) := by decide +kernel) (hn : x ≠ "__name__" := by decide) (hd : (x == ("__debug__" : Str)) = false := by decide) : DE X B W (.Name x pos) (eC (.raw (.ty n))) :=
  ⟨_, pe_bltn (v := .ty n) hg hm hv (show L2.RelV (.ty n) (.type n) from rfl) hn hd, sndE_c fun _ => .raw _⟩
theorem de_isi (hK : B.K = X.K) {e2 : Expr} {p : Pos} (hm : X.mg "isinstance" = none) (ha : DA X B W [e, e2] fr) (hg : Gl X "isinstance" := by rfl)
    (he : starEach [e, e2] X.env = (false, eval e X.env) :: starEach [e2] X.env := by rfl) (hpl : (backTo pos (starEach [e2] X.env)).any (·.1) = false := by rfl) : DE X B W (.Call (.Name "isinstance" p) [e, e2] [] pos) (eB bIsi fr) :=
  de_cb call_isi (hK ▸ snd_isi) hm ha hg (by decide +kernel) (by decide) (by decide) he hpl
theorem de_neg {j : Nat} (ha : DE X B W a fa) : DE X B W (.UnaryOp .USub a pos) (fun env => bnd (fa env) fun x => match x with | .int i => ret (.int (-i)) | _ => stk) := by
  obtain ⟨t, p, s⟩ := ha.ex
  refine ⟨_, pe_un un_neg p, fun env S σ F H sa k Q hq => s env S σ F H sa k _ ((Post.bnd hq).imp fun x S1 h1 v F1 H1 k1 e1 r1 => ?_)⟩
  cases x with
  | int i =>
    cases r1.int_inv
    exact ⟨i, rfl, h1 _ F1 H1 k1 e1 (.int _)⟩
  | _ => exact h1.elim

/-! ### tests, and, or, not, if -/
def tV (f : Env → M DD) : Env → M Bool := fun env => bnd (f env) fun d => match d with
  | .bl b => ret b
  | _ => stk
theorem dt_val (h : DE X B W e fa) (he : ∀ whole, isTrue e X.env whole = (do let v ← whole; standAt e.pos; holding [v] (truthy v)) := by intro _; rfl) : DT X B W e (tV fa) := by
  obtain ⟨t, p, s⟩ := h.ex
  refine ⟨_, pt_val p he, fun env S σ F H sa k Q hq => s env S σ F H sa k _ ((Post.bnd hq).imp fun x S1 h1 v F1 H1 k1 e1 r1 => ?_)⟩
  cases x with
  | bl i =>
    cases r1.bl_inv
    exact ⟨i, rfl, h1 F1 H1 k1 e1⟩
  | _ => exact h1.elim
variable {ft fu : Env → M Bool} {rest : List Expr}
def tAndD (t u : Env → M Bool) : Env → M Bool := fun env => bnd (t env) fun c => if c = true then u env else ret false
def tOrD (t u : Env → M Bool) : Env → M Bool := fun env => bnd (t env) fun c => if c = true then ret true else u env
def tNotD (t : Env → M Bool) : Env → M Bool := fun env => bnd (t env) fun c => ret (!c)
theorem dw_and1 (ha : DT X B W a ft) : DW X B W (.BoolOp .And [a] pos) ft := by
  obtain ⟨t, p, s⟩ := ha.ex
  exact ⟨_, pw_and1 p, s⟩
theorem dw_or1 (ha : DT X B W a ft) : DW X B W (.BoolOp .Or [a] pos) ft := by
  obtain ⟨t, p, s⟩ := ha.ex
  exact ⟨_, pw_or1 p, s⟩
theorem dw_and (ha : DT X B W a ft) (hb : DW X B W (.BoolOp .And (b :: rest) pos) fu) : DW X B W (.BoolOp .And (a :: b :: rest) pos) (tAndD ft fu) := by
  obtain ⟨t, p, s⟩ := ha.ex
  obtain ⟨t2, p2, s2⟩ := hb.ex
  refine ⟨_, pw_and p p2, fun env S σ F H sa k Q hq => s env S σ F H sa k _ ((Post.bnd hq).imp fun c S1 h1 F1 H1 k1 e1 => ?_)⟩
  cases c with
  | true => exact iteT (s2 env S1 σ F1 H1 sa k1 Q (Post.sameB e1 h1))
  | false => exact iteF (h1 F1 H1 k1 e1)
theorem dw_or (ha : DT X B W a ft) (hb : DW X B W (.BoolOp .Or (b :: rest) pos) fu) : DW X B W (.BoolOp .Or (a :: b :: rest) pos) (tOrD ft fu) := by
  obtain ⟨t, p, s⟩ := ha.ex
  obtain ⟨t2, p2, s2⟩ := hb.ex
  refine ⟨_, pw_or p p2, fun env S σ F H sa k Q hq => s env S σ F H sa k _ ((Post.bnd hq).imp fun c S1 h1 F1 H1 k1 e1 => ?_)⟩
  cases c with
  | true => exact iteT (h1 F1 H1 k1 e1)
  | false => exact iteF (s2 env S1 σ F1 H1 sa k1 Q (Post.sameB e1 h1))
theorem dw_pt (h : DW X B W e ft) : DT X B W e ft := by
  obtain ⟨t, p, s⟩ := h.ex
  exact ⟨_, p.pt, s⟩
theorem dt_not (ha : DT X B W a ft) : DT X B W (.UnaryOp .Not a pos) (tNotD ft) := by
  obtain ⟨t, p, s⟩ := ha.ex
  exact ⟨_, pt_not p, fun env S σ F H sa k Q hq => s env S σ F H sa k _ ((Post.bnd hq).imp fun c S1 h1 F1 H1 k1 e1 => h1 F1 H1 k1 e1)⟩
/-- as values -/
def eAnd (f g : Env → M DD) : Env → M DD := fun env => bnd (f env) fun d => match d with
  | .bl true => g env
  | .bl false => ret (.bl false)
  | _ => stk
def eOr (f g : Env → M DD) : Env → M DD := fun env => bnd (f env) fun d => match d with
  | .bl false => g env
  | .bl true => ret (.bl true)
  | _ => stk
def eNot (f : Env → M DD) : Env → M DD := fun env => bnd (f env) fun d => match d with
  | .bl b => ret (.bl (!b))
  | _ => stk
theorem de_one {op} (h : DE X B W a fa) : DE X B W (.BoolOp op [a] pos) fa := by
  obtain ⟨t, p, s⟩ := h.ex
  exact ⟨_, pe_one p, s⟩
theorem de_and (ha : DE X B W a fa) (hb : DE X B W (.BoolOp .And (b :: rest) pos) fb) : DE X B W (.BoolOp .And (a :: b :: rest) pos) (eAnd fa fb) := by
  obtain ⟨t, p, s⟩ := ha.ex
  obtain ⟨t2, p2, s2⟩ := hb.ex
  refine ⟨_, pe_and p p2, fun env S σ F H sa k Q hq => s env S σ F H sa k _ ((Post.bnd hq).imp fun c S1 h1 v F1 H1 k1 e1 r1 => ?_)⟩
  cases c with
  | bl c =>
    cases r1.bl_inv
    cases c with
    | true => exact ⟨true, rfl, iteT (s2 env S1 σ F1 H1 sa k1 Q (Post.same e1 h1))⟩
    | false => exact ⟨false, rfl, iteF (h1 _ F1 H1 k1 e1 (.bl _))⟩
  | _ => exact h1.elim
theorem de_or (ha : DE X B W a fa) (hb : DE X B W (.BoolOp .Or (b :: rest) pos) fb) : DE X B W (.BoolOp .Or (a :: b :: rest) pos) (eOr fa fb) := by
  obtain ⟨t, p, s⟩ := ha.ex
  obtain ⟨t2, p2, s2⟩ := hb.ex
  refine ⟨_, pe_or p p2, fun env S σ F H sa k Q hq => s env S σ F H sa k _ ((Post.bnd hq).imp fun c S1 h1 v F1 H1 k1 e1 r1 => ?_)⟩
  cases c with
  | bl c =>
    cases r1.bl_inv
    cases c with
    | true => exact ⟨true, rfl, iteT (h1 _ F1 H1 k1 e1 (.bl _))⟩
    | false => exact ⟨false, rfl, iteF (s2 env S1 σ F1 H1 sa k1 Q (Post.same e1 h1))⟩
  | _ => exact h1.elim
theorem de_not (ha : DE X B W a fa) : DE X B W (.UnaryOp .Not a pos) (eNot fa) := by
  obtain ⟨t, p, s⟩ := ha.ex
  refine ⟨_, pe_not p, fun env S σ F H sa k Q hq => s env S σ F H sa k _ ((Post.bnd hq).imp fun c S1 h1 v F1 H1 k1 e1 r1 => ?_)⟩
  cases c with
  | bl c =>
    cases r1.bl_inv
    exact ⟨c, rfl, h1 _ F1 H1 k1 e1 (.bl _)⟩
  | _ => exact h1.elim
def eIf (t : Env → M Bool) (f g : Env → M DD) : Env → M DD := fun env => bnd (t env) fun c => if c = true then f env else g env
theorem de_if {c : Expr} (hc : DT X B W c ft) (ha : DE X B W a fa) (hb : DE X B W b fb) : DE X B W (.IfExp c a b pos) (eIf ft fa fb) := by
  obtain ⟨t, p, s⟩ := hc.ex
  obtain ⟨t1, p1, s1⟩ := ha.ex
  obtain ⟨t2, p2, s2⟩ := hb.ex
  refine ⟨_, pe_ifExp p p1 p2, fun env S σ F H sa k Q hq => s env S σ F H sa k _ ((Post.bnd hq).imp fun c S1 h1 F1 H1 k1 e1 => ?_)⟩
  cases c with
  | true => exact iteT (s1 env S1 σ F1 H1 sa k1 Q (Post.same e1 h1))
  | false => exact iteF (s2 env S1 σ F1 H1 sa k1 Q (Post.same e1 h1))
def eChain (op op' : DD → DD → M DD) (f g h : Env → M DD) : Env → M DD := fun env => bnd (f env) fun x => bnd (g env) fun y => bnd (op x y) fun z => match z with
  | .bl true => bnd (h env) fun w => op' y w
  | .bl false => ret (.bl false)
  | _ => stk
theorem de_chain {op op' : CmpOp} {r r' : R2} {g g' : DD → DD → M DD} (ho : OpR X (compareOp op) r) (ho' : OpR X (compareOp op') r') (hs : OpSnd B W r g) (hs' : OpSnd B W r' g') (ha : DE X B W a fa) (hb : DE X B W b fb) (hc : DE X B W c fc)
    (hm : lastMarks [op, op'] [b, c] = false := by with_unfolding_all rfl) : DE X B W (.Compare a [op, op'] [b, c] pos) (eChain g g' fa fb fc) := by
  obtain ⟨t, p, s⟩ := ha.ex
  obtain ⟨t1, p1, s1⟩ := hb.ex
  obtain ⟨t2, p2, s2⟩ := hc.ex
  refine ⟨_, pe_chain ho ho' p p1 p2 hm, fun env S σ F H sa k Q hq => s env S σ F H sa k _ ((Post.bnd hq).imp fun x S1 h1 v F1 H1 k1 e1 r1 => ?_)⟩
  refine s1 env S1 σ F1 H1 sa k1 _ ((Post.bnd (h1.same e1)).imp fun y S2 h2 w F2 H2 k2 e2 r2 => ?_)
  refine hs env S2 σ F2 H2 sa v w x y k2 (Rp.same e2.ff x r1) r2 _ ((Post.bnd (h2.same e2)).imp fun z S3 h3 u F3 H3 k3 e3 r3 => ?_)
  cases z with
  | bl z =>
    cases r3.bl_inv
    cases z with
    | true =>
      refine ⟨true, rfl, iteT (s2 env S3 σ F3 H3 sa k3 _ ((Post.bnd (Post.same e3 h3)).imp fun q S4 h4 u4 F4 H4 k4 e4 r4 => ?_))⟩
      exact hs' env S4 σ F4 H4 sa w u4 y q k4 (Rp.same (e3.trans e4).ff y r2) r4 Q (Post.same e4 h4)
    | false => exact ⟨false, rfl, iteF (h3 _ F3 H3 k3 e3 (.bl _))⟩
  | _ => exact h3.elim
theorem de_lele (ha : DE X B W a fa) (hb : DE X B W b fb) (hc : DE X B W c fc) : DE X B W (.Compare a [.LtE, .LtE] [b, c] pos) (eChain opLe opLe fa fb fc) :=
  de_chain op_le op_le (snd_I0 fun _ _ _ => .bl _) (snd_I0 fun _ _ _ => .bl _) ha hb hc (show lastMarks [CmpOp.LtE, CmpOp.LtE] [b, c] = false from nomark (op := .LtE) c)
end
end AU
/-! enumerate of a tuple; a walk over a list or a tuple -/
namespace PySem
open Sem (wp)
open AutoSeq1 (wpAny_loadPart')
set_option maxHeartbeats 4000000 in
theorem au_enumerate_newB {v : Value} {o : Obj} {H : Heap → Prop} (B : Begins v o H) :
    Meets (Builtin.«enumerate.__new__» ⟨[.type "enumerate", v], []⟩) (fun _ R s => H s.heap ∧
      R (.ok (.ret (.ref (s.heap.push o).objs.size))) { s with heap := (s.heap.push o).push { cls := .type "enumerate", data := .fields #[.none, .bool false, .ref s.heap.objs.size, rawInt 0, .none, .none] } }) :=
  .of_wp fun prog w A R s h => by
    obtain ⟨hp, g, d, tk, os⟩ := s; obtain ⟨h1, h⟩ := h
    have hsub := sub_enumerate
    have q1 : ∀ {A' : Around} {E : Value → Shared → Prop} {Q : Value → Shared → Prop}, Q (.ref hp.objs.size) ⟨hp.push o, g, d, tk, os⟩ → wpAny (model prog w) A' (pyIter v) Q E ⟨hp, g, d, tk, os⟩ :=
      fun q => B.iter prog w _ _ ⟨hp, g, d, tk, os⟩ _ h1 q
    wp_walk using q1
    refine wpAny_stack_any fun st => wpAny_pure ?_
    split
    · rename_i c _ _ _ _ _
      cases (c == Value.type "enumerate")
      · wp_walk using q1
        exact ⟨_, rfl, h⟩
      · wp_walk using q1
        exact ⟨_, rfl, h⟩
    · wp_walk using q1
      exact ⟨_, rfl, h⟩
section
variable {prog : Program} {w : World} {A : Around} {E : Value → Shared → Prop} {s : Shared}
theorem au_enum_begins {v : Value} {o : Obj} {H : Heap → Prop} {Q : Value → Shared → Prop} (B : Begins v o H) (h1 : H s.heap)
    (h : ∀ h', IsEnum h' (s.heap.objs.size + 1) s.heap.objs.size 0 .none → h'.get? s.heap.objs.size = some o → h'.objs.size = s.heap.objs.size + 2 →
      (∀ b o, s.heap.get? b = some o → h'.get? b = some o) → Q (.ref (s.heap.objs.size + 1)) { s with heap := h' }) :
    wpAny (model prog w) A (call (.type "enumerate") [v]) Q E s := by
  refine callType_new F.called_enumerate (by decide) (F.typeCall_enumerate_1 _) (F.newCall_enumerate_1 _) (fun obj => F.args_object_init_2 obj _) F.entry_enumerate_new
    (au_enumerate_newB B) ⟨h1, ?_⟩
  have hz : (s.heap.push o).objs.size = s.heap.objs.size + 1 := Heap.size_push ..
  show _ ∧ _
  rw [hz]
  have he : IsEnum ((s.heap.push o).push { cls := .type "enumerate", data := .fields #[.none, .bool false, .ref s.heap.objs.size, rawInt 0, .none, .none] }) (s.heap.objs.size + 1) s.heap.objs.size 0 .none := by
    have := Heap.get?_push_size (s.heap.push o) (o := { cls := .type "enumerate", data := .fields #[.none, .bool false, .ref s.heap.objs.size, rawInt 0, .none, .none] }) rfl
    rw [hz] at this; exact this
  refine ⟨⟨_, he, rfl⟩, h _ he (Heap.get?_push_of_some _ (Heap.get?_push_size _ B.free)) (by rw [Heap.size_push, hz]) fun b o x => Heap.get?_push_of_some _ (Heap.get?_push_of_some _ x)⟩
end
end PySem
namespace AU
open PySem PySem.Spec PyProof.Rows L2
/-- the tuple at a, each item in a new pair -/
def IteT (K : PySem.W.Frag) (a : Addr) : L2.It :=
  ⟨fun i H => ∃ (xs : List V) (x : V), SqT K H a xs ∧ xs[i]? = some x, fun i H v H' => ∃ T x, v = .ref T ∧ H T = none ∧ H' = upd H T (.tup [.int (i : Nat), x]) ∧ ∀ xs, SqT K H a xs → xs[i]? = some x, fun i H => ∃ xs : List V, SqT K H a xs ∧ xs.length ≤ i⟩
theorem turn_enumT {P : Program} {w : World} {K : PySem.W.Frag} {elts : List Expr} {kk : Nat} {tpos : Pos} (a e it : Addr) :
    Turn P w K (.Tuple elts kk tpos) (IteT K a) [e, it] e (fun i h => (∃ old, IsEnum h e it ((i : Nat) : Int) old) ∧ h.IsTupleIter it a i ∧ e ≠ it ∧ e ≠ a ∧ a ≠ it) where
  mem := by simp
  obj := fun i h st b hb => by
    obtain ⟨⟨old, he⟩, ⟨o, ho, hc, hd⟩, _⟩ := st
    have e' : b = e ∨ b = it := by simpa using hb
    rcases e' with z | z
    · rw [z]; exact ⟨_, he, fun v q => nomatch q⟩
    · rw [z]; exact ⟨o, ho, fun v q => by rw [hd] at q; cases q⟩
  keep := fun i h h' st k => let ⟨⟨old, he⟩, hi, hne⟩ := st; ⟨⟨old, k e (by simp) _ he⟩, hi.at fun o q => k it (by simp) o q, hne⟩
  item := by
    intro X hP hw hK hc i pins s σ H E I hf st hg
    subst hP hw hK
    obtain ⟨⟨old, he⟩, hit, hne, hea, hai⟩ := st
    obtain ⟨xs, x, hq, hx⟩ := hg
    obtain ⟨its, rv, p, hz⟩ := I.tuple hq
    obtain ⟨u, hu, ru⟩ := rv.get hx
    have hel : e < s.heap.objs.size := Heap.lt_size he
    have hil : it < s.heap.objs.size := by obtain ⟨_, q, _⟩ := hit; exact Heap.lt_size q
    have hp : s.heap.IsTuple a its.toArray := p
    have D := Draws.tuple (prog := X.prog) (w := X.w) (A := X.A.in1) (I.ok.hd hc) it a hai its.toArray
    have hlt : i < its.toArray.size := by
      have := (List.getElem?_eq_some_iff.mp hu).1
      simpa using this
    refine wpAny_pyNext_enum_itemD D he ⟨hit, hp⟩ hlt hne (by simp [hne, hea]) fun x' h' tk hPx ho hst hT hsz hk => ?_
    obtain rfl : x' = u := by
      have h1 : its[i]? = some x' := by simpa using hPx
      rw [hu] at h1
      exact (Option.some.inj h1).symm
    refine ⟨_, rfl, wpAny_letOwnedTupleGo_enum (s := { s with heap := h', toks := tk + 1 }) ho fun h'' he' sb => ?_⟩
    have hT2 : h''.get? s.heap.objs.size = some { cls := .type "tuple", data := .seq #[.int i tk, x'] } := (sb.2 _ (Nat.ne_of_gt hel)).trans hT
    have new : ObjOk X.prog X.w (upd H s.heap.objs.size (.tup [.int (i : Nat), x])) h'' s.heap.objs.size (.tup [.int (i : Nat), x]) :=
      ⟨by show 2 ≤ sizeLine; decide, [.int i tk, x'], .cons ⟨_, rfl⟩ (.cons ru .nil), ⟨_, hT2, rfl, _, rfl⟩⟩
    have I1 : Inv X pins σ (upd H s.heap.objs.size (.tup [.int (i : Nat), x])) { s with heap := h'', toks := tk + 1 } :=
      I.turnedNew (ch := [e, it]) (fun b ob hb q => (sb.2 b (fun z => hb (by simp [z]))).trans (hk b ob (fun z => hb (by simp [z])) (fun z => hb (by simp [z])) q)) hf (Nat.le_refl _) new
    refine ⟨.ref s.heap.objs.size, _, I1, rfl, ⟨_, x, rfl, I.hok.fresh (Nat.le_refl _), rfl, fun ys hy => by rw [I.tuple_inj hy hq]; exact hx⟩, ⟨⟨x', ?_⟩, hst.1.at fun o q => (sb.2 it (Ne.symm hne)).trans q, hne, hea, hai⟩, fun b hb => ?_⟩
    · have e1 : ((i + 1 : Nat) : Int) = (i : Int) + 1 := by omega
      rw [e1]; exact he'
    · have hb' : b < s.heap.objs.size := by
        have e' : b = e ∨ b = it := by simpa using hb
        rcases e' with z | z
        · rw [z]; exact hel
        · rw [z]; exact hil
      rw [upd_ne (Nat.ne_of_lt hb')]
      exact (hf b hb).1
  done := by
    intro X hP hw hK hc i pins s σ H E I hf st hg
    subst hP hw hK
    obtain ⟨⟨old, he⟩, hit, hne, hea, hai⟩ := st
    obtain ⟨xs, hq, hx⟩ := hg
    obtain ⟨its, rv, p, hz⟩ := I.tuple hq
    obtain ⟨f0, f1, f2, f3, f4, f5⟩ := hf it (by simp)
    have hl := rv.length
    have hp : s.heap.IsTuple a its.toArray := p
    have hT : s.TypeIs (.ref e) "enumerate" := ⟨_, he, rfl⟩
    unfold pyNext
    refine wpAny_bind (wpAny_attempt (wpAny_callSpecial?_slot (name := Str.ofString "__next__") hT F.slot_enumerate_next
      (wpAny_call_entry F.slot_enumerate_next hT F.entry_enumerate_next ?_ (F.args_enumerate_next_1 _))))
    show wpAny _ _ (field (.ref e) 2 >>= _) _ _ _
    refine wpAny_bind (wpAny_field he rfl (x := .ref it) rfl ?_)
    refine wpAny_bind (wpAny_nextOf_tuple_end (I.ok.hd hc) hit hp (by simp; omega) fun h' x' eb hx' => ?_)
    obtain ⟨o, ho, hcls⟩ := hx'
    refine wpAny_bind (wpAny_isInstance (T := "StopIteration") (b := true) ⟨o, ho, hcls⟩ isSubtype_stop ?_)
    exact wpAny_pure ⟨rfl, I.turned (t' := s.toks) (fun b o hb q => eb b o hb q) f0 f1 f3 f4 f5⟩
  self := fun A i s Q E st h => let ⟨⟨_, he⟩, _⟩ := st; wpAny_pyIter_enum he h
def iEnumA (K : PySem.W.Frag) (ta : TA) : TI := fun σ H R => ta σ H fun vs H1 => ∃ a xs, vs = [.ref a] ∧ ((SqL K H1 a xs ∧ R (Ite K a) H1) ∨ (SqT K H1 a xs ∧ R (IteT K a) H1))
theorem pi_enumA {X : Cx} {e : Expr} {ta : TA} {p pos tpos : Pos} {elts : List Expr} {kk : Nat} (hg : Gl X "enumerate") (hm : X.mg "enumerate" = none) (ha : PA X [e] ta) (hs : starEach [e] X.env = [(false, eval e X.env)] := by rfl) :
    PI X (.Tuple elts kk tpos) (.Call (.Name "enumerate" p) [e] [] pos) (iEnumA X.K ta) := by
  refine ⟨fun pins s σ H R I h => ?_⟩
  refine Call_ (ld_blt I hg hm boot_enumerate (PyProof.Rows.callWith_type1 (thn (ha.run pos pins s σ H _ I h) fun us s1 ⟨vs, H1, I1, r1, q1⟩ => ?_) hs rfl))
  obtain ⟨a, xs, ex, q⟩ := q1
  subst ex
  cases r1 with
  | cons r rr =>
    cases rr
    cases r
    have fp2 : ∀ b ∈ [s1.heap.objs.size + 1, s1.heap.objs.size], FpOk X pins H1 b := fun b hb => by
      have e' : b = s1.heap.objs.size + 1 ∨ b = s1.heap.objs.size := by simpa using hb
      have hle : s1.heap.objs.size ≤ b := by
        rcases e' with z | z
        · rw [z]; exact Nat.le_add_right _ _
        · rw [z]; exact Nat.le_refl _
      exact I1.fpOk hle (I1.hok.fresh hle)
    rcases q with ⟨hq, q⟩ | ⟨hq, q⟩
    · obtain ⟨its, rv, p', hz⟩ := I1.list hq
      refine call_enumerate_list p'.isList fun h' he hit hsz hk => wpAny_pyIter_enum he ?_
      have I2 : Inv X pins σ H1 { s1 with heap := h' } := I1.kept (t' := s1.toks) hk
      exact ⟨s1.heap.objs.size + 1, [s1.heap.objs.size + 1, s1.heap.objs.size], _, _, H1, rfl, I2, turn_enum a (s1.heap.objs.size + 1) s1.heap.objs.size, ⟨⟨.none, he⟩, hit, Nat.succ_ne_self _⟩, fp2, q⟩
    · obtain ⟨its, rv, p', hz⟩ := I1.tuple hq
      have hp : s1.heap.IsTuple a its.toArray := p'
      refine au_enum_begins (begins_tuple a its.toArray) hp fun h' he hit hsz hk => wpAny_pyIter_enum he ?_
      have I2 : Inv X pins σ H1 { s1 with heap := h' } := I1.kept (t' := s1.toks) hk
      have hal : a < s1.heap.objs.size := p'.lt
      exact ⟨s1.heap.objs.size + 1, [s1.heap.objs.size + 1, s1.heap.objs.size], _, _, H1, rfl, I2, turn_enumT a (s1.heap.objs.size + 1) s1.heap.objs.size,
        ⟨⟨.none, he⟩, ⟨_, hit, rfl, rfl⟩, Nat.succ_ne_self _, Nat.ne_of_gt (Nat.lt_succ_of_lt hal), Nat.ne_of_lt hal⟩, fp2, q⟩
/-- a list or a tuple -/
def iSeq (K : PySem.W.Frag) (tl : TE) : TI := fun σ H R => tl σ H fun x H1 => ∃ a, x = .ref a ∧ (((∃ xs, SqL K H1 a xs) ∧ R (Itl K a) H1) ∨ ((∃ xs, SqT K H1 a xs) ∧ R (Itt K a) H1))
theorem pi_seq {X : Cx} {tg l : Expr} {tl : TE} (hl : PE X l tl) : PI X tg l (iSeq X.K tl) := by
  refine ⟨fun pins s σ H R I h => ?_⟩
  refine thn (hl.run pins s σ H _ I h) fun v s1 ⟨x, H1, I1, r1, q1⟩ => ?_
  obtain ⟨a, e, q⟩ := q1
  subst e
  cases r1
  have fp1 : ∀ b ∈ [s1.heap.objs.size], FpOk X pins H1 b := fun b hb => by
    have e : b = s1.heap.objs.size := by simpa using hb
    subst e
    exact I1.fpOk (Nat.le_refl _) (I1.hok.fresh (Nat.le_refl _))
  rcases q with ⟨⟨xs, hq⟩, q⟩ | ⟨⟨xs, hq⟩, q⟩
  · obtain ⟨its, rv, p, hz⟩ := I1.list hq
    refine wpAny_pyIter_list p.isList ?_
    exact ⟨s1.heap.objs.size, [s1.heap.objs.size], _, _, H1, rfl, I1.kept (t' := s1.toks) fun b o e => Heap.get?_push_of_some _ e, turn_list a _, ⟨_, Heap.get?_push_size _ rfl, rfl, rfl⟩, fp1, q⟩
  · obtain ⟨its, rv, p, hz⟩ := I1.tuple hq
    refine wpAny_pyIter_tuple (show s1.heap.IsTuple a its.toArray from p) ?_
    exact ⟨s1.heap.objs.size, [s1.heap.objs.size], _, _, H1, rfl, I1.kept (t' := s1.toks) fun b o e => Heap.get?_push_of_some _ e, turn_tuple a _, ⟨_, Heap.get?_push_size _ rfl, rfl, rfl⟩, fp1, q⟩
end AU
namespace AU
open PySem PySem.Spec PyProof.Rows L2

/-! ### slots -/
section
variable {B : Bs} {env : Env} {S : Sr} {σ : L2.St} {F H : Hp} {sa : Option Addr}
theorem get_set {α : Type} {l : List α} {i j : Nat} {x y : α} (h : (l.set i x)[j]? = some y) : (i = j ∧ y = x ∧ i < l.length) ∨ (i ≠ j ∧ l[j]? = some y) := by
  by_cases e : i = j
  · subst e
    by_cases hl : i < l.length
    · rw [List.getElem?_set_self hl] at h
      exact .inl ⟨rfl, (Option.some.inj h).symm, hl⟩
    · rw [List.getElem?_eq_none (by simpa using hl)] at h
      cases h
  · rw [List.getElem?_set_ne e] at h
    exact .inr ⟨e, h⟩
/-- a slot gets data -/
theorem Ok.setD (k : Ok B env S σ F H sa) (i : Nat) {v : V} {d : DD} (r : Rp B.K F v d) : Ok B (env.set i (some (.d d))) S (σ.set i (some v)) F H sa := by
  refine ⟨k.ff, k.fh, k.hh, k.nf, k.tb, k.sa0, k.so, by simpa using k.len, fun j it e => ?_, fun j1 j2 x y a h1 h2 o1 h3 o2 h4 => ?_, k.ft⟩
  · rcases get_set e with ⟨rfl, e2, hl⟩ | ⟨ne, e2⟩
    · cases e2
      exact ⟨v, by rw [List.getElem?_set_self (by rw [← k.len]; exact hl)], r⟩
    · obtain ⟨w, h1, h2⟩ := k.sl j it e2
      exact ⟨w, by rw [List.getElem?_set_ne ne]; exact h1, h2⟩
  · rcases get_set h2 with ⟨_, e2, _⟩ | ⟨n1, e1⟩
    · cases e2 <;> cases o1
    · rcases get_set h3 with ⟨_, e2, _⟩ | ⟨n2, e2⟩
      · cases e2 <;> cases o2
      · rw [List.getElem?_set_ne n1] at h4
        rw [List.getElem?_set_ne n2]
        exact k.dj j1 j2 x y a h1 e1 o1 e2 o2 h4
/-- a slot is forgotten -/
theorem Ok.unset (k : Ok B env S σ F H sa) (i : Nat) (o : Option V) : Ok B (env.set i none) S (σ.set i o) F H sa := by
  refine ⟨k.ff, k.fh, k.hh, k.nf, k.tb, k.sa0, k.so, by simpa using k.len, fun j it e => ?_, fun j1 j2 x y a h1 h2 o1 h3 o2 h4 => ?_, k.ft⟩
  · rcases get_set e with ⟨_, e2, _⟩ | ⟨ne, e2⟩
    · cases e2
    · obtain ⟨w, h1, h2⟩ := k.sl j it e2
      exact ⟨w, by rw [List.getElem?_set_ne ne]; exact h1, h2⟩
  · rcases get_set h2 with ⟨_, e2, _⟩ | ⟨n1, e1⟩
    · cases e2 <;> cases o1
    · rcases get_set h3 with ⟨_, e2, _⟩ | ⟨n2, e2⟩
      · cases e2 <;> cases o2
      · rw [List.getElem?_set_ne n1] at h4
        rw [List.getElem?_set_ne n2]
        exact k.dj j1 j2 x y a h1 e1 o1 e2 o2 h4
def wipeE (env : Env) : List Nat → Env
  | [] => env
  | v :: vs => (wipeE env vs).set v none
theorem Ok.wipe (k : Ok B env S σ F H sa) : ∀ vs : List Nat, Ok B (wipeE env vs) S (L2.wipe σ vs) F H sa
  | [] => k
  | v :: vs => (Ok.wipe k vs).unset v none
theorem wipe_get (σ : L2.St) : ∀ (vs : List Nat) (i : Nat), i ∉ vs → (L2.wipe σ vs)[i]? = σ[i]?
  | [], i, _ => rfl
  | v :: vs, i, h => by
    unfold L2.wipe
    simp only [List.mem_cons, not_or] at h
    rw [List.getElem?_set_ne (Ne.symm h.1)]
    exact wipe_get σ vs i h.2
theorem wipe_in (σ : L2.St) : ∀ (vs : List Nat) (i : Nat), i ∈ vs → (L2.wipe σ vs)[i]? = if i < σ.length then some none else none
  | [], i, h => by cases h
  | v :: vs, i, h => by
    unfold L2.wipe
    by_cases e : v = i
    · subst e
      by_cases hl : v < σ.length
      · rw [List.getElem?_set_self (by rw [wipe_length]; exact hl), if_pos hl]
      · rw [List.getElem?_eq_none (by rw [List.length_set, wipe_length]; omega), if_neg hl]
    · rw [List.getElem?_set_ne e]
      rcases List.mem_cons.mp h with z | z
      · exact absurd z.symm e
      · exact wipe_in σ vs i z
theorem wipe_eq {σ τ : L2.St} (vs : List Nat) (hl : σ.length = τ.length) (h : ∀ i, i ∉ vs → σ[i]? = τ[i]?) : L2.wipe σ vs = L2.wipe τ vs := by
  apply List.ext_getElem?
  intro i
  by_cases e : i ∈ vs
  · rw [wipe_in σ vs i e, wipe_in τ vs i e, hl]
  · rw [wipe_get σ vs i e, wipe_get τ vs i e]
    exact h i e
/-- the growth of the heaps, the slots as they were -/
theorem tabs_ext {T : List (Addr × Str)} {H H' : Hp} (t : LamX.Tabs T H) (e : ∀ b o, H b = some o → (∀ xs, o ≠ .lst xs) → H' b = some o) : LamX.Tabs T H' := fun p hp => by
  obtain ⟨ps, h1, h2, h3⟩ := t p hp
  refine ⟨ps, e _ _ h1 (fun xs z => by cases z), h2, fun pos cv hc => ?_⟩
  obtain ⟨c, e1, e2⟩ := h3 pos cv hc
  exact ⟨c, e1, e _ _ e2 (fun xs z => by unfold LamX.CodeO at z; cases z)⟩
theorem Ok.grow {S' : Sr} {F' H' : Hp} (k : Ok B env S σ F H sa) (ff : Same F F') (fh : Same F' H') (kp : ∀ a o, H a = some o → sa ≠ some a → H' a = some o) (nf : ∀ a, H a ≠ none → F a = none → F' a = none)
    (so : ∀ a, sa = some a → H' a = some (.lst [.int S'.1, .int S'.2])) (ft : ∀ a ps, F' a ≠ some (.tbl ps)) : Ok B env S' σ F' H' sa ∧ Gw B sa F H F' H' := by
  have there : ∀ a o, H a = some o → Kp B o → ∃ o', H' a = some o' ∧ Kp B o' := fun a o q h => by
    by_cases hs : sa = some a
    · exact ⟨_, so a hs, .lst⟩
    · exact ⟨o, kp a o q hs, h⟩
  have nn : ∀ {a : Addr} {o : HO}, H a = some o → H a ≠ none := fun e z => by rw [e] at z; cases z
  refine ⟨⟨k.ff.trans ff, fh, fun a u e h1 h2 => kp a u (k.hh a u e h1 h2) fun z => ?_, fun a u h0 h1 h2 => (let ⟨_, e', _⟩ := k.there h0 h1; nf a (nn e') (k.nf a u h0 h1 h2)), tabs_ext k.tb fun b o e hne => kp b o e fun z => ?_, k.sa0, fun a e => ?_, k.len, fun i it e => ?_, k.dj, ft⟩,
    ⟨ff, fun a o e h1 _ => kp a o e h1, fun a o e _ h => nf a (nn e) h, there⟩⟩
  · rcases k.sa0 with q | q
    · exact h1 (q ▸ z)
    · rcases (k.so a z).2.2 with q2 | q2
      · rw [q] at q2
        cases q2
      · exact q2 u e h2
  · have z2 := (k.so b z).2.1
    rw [e] at z2
    cases z2
    exact hne _ rfl
  · obtain ⟨h1, h2, h3⟩ := k.so a e
    exact ⟨nf a (fun z => by rw [h2] at z; cases z) h1, so a e, h3⟩
  · obtain ⟨v, h1, h2⟩ := k.sl i it e
    refine ⟨v, h1, ?_⟩
    cases it with
    | d x => exact Rp.same ff x h2
    | l xs =>
      obtain ⟨a, vs, e1, e2, e3, e4, e5, e6⟩ := h2
      exact ⟨a, vs, e1, nf a (fun z => by rw [e5] at z; cases z) e2, e3, e4, kp a _ e5 e4, RpA.same ff xs e6⟩
    | m ks ws =>
      obtain ⟨a, xs, e1, e2, e3, e4, e5, e6⟩ := h2
      exact ⟨a, xs, e1, nf a (fun z => by rw [e5] at z; cases z) e2, e3, e4, kp a _ e5 e4, e6.same ff⟩
    | s => exact h2
    | sc ns =>
      obtain ⟨a, e1, e2⟩ := h2
      exact ⟨a, e1, Same.seq ff e2⟩
end

/-! ### calls of the program's own defs -/
def ArgOk (K : PySem.W.Frag) (F : Hp) (sa : Option Addr) : It → V → Prop
  | .d x, v => Rp K F v x
  | .l _, _ => False
  | .m _ _, _ => False
  | .s, v => ∃ a, v = .ref a ∧ sa = some a
  | .sc ns, v => ∃ a, v = .ref a ∧ SqL K F a (ns.map V.int)
inductive ArgsOk (K : PySem.W.Frag) (F : Hp) (sa : Option Addr) : List It → List V → Prop
  | nil : ArgsOk K F sa [] []
  | cons {it : It} {its : List It} {v : V} {vs : List V} : ArgOk K F sa it v → ArgsOk K F sa its vs → ArgsOk K F sa (it :: its) (v :: vs)
theorem ArgOk.same {K : PySem.W.Frag} {F F' : Hp} {sa : Option Addr} (e : Same F F') : ∀ {it : It} {v : V}, ArgOk K F sa it v → ArgOk K F' sa it v
  | .d x, _, h => Rp.same e x h
  | .l _, _, h => h.elim
  | .m _ _, _, h => h.elim
  | .s, _, h => h
  | .sc _, _, ⟨a, e1, e2⟩ => ⟨a, e1, Same.seq e e2⟩
theorem ArgsOk.same {K : PySem.W.Frag} {F F' : Hp} {sa : Option Addr} (e : Same F F') : ∀ {its : List It} {vs : List V}, ArgsOk K F sa its vs → ArgsOk K F' sa its vs
  | _, _, .nil => .nil
  | _, _, .cons h1 h2 => .cons (h1.same e) (h2.same e)
def isS : It → Bool
  | .s => true
  | _ => false
theorem ArgsOk.pure {K : PySem.W.Frag} {F : Hp} {sa sb : Option Addr} : ∀ {its : List It} {vs : List V}, its.any isS = false → ArgsOk K F sa its vs → ArgsOk K F sb its vs
  | _, _, _, .nil => .nil
  | it :: its, _, h, .cons h1 h2 => by
    simp only [List.any_cons, Bool.or_eq_false_iff] at h
    refine .cons ?_ (ArgsOk.pure h.2 h2)
    cases it with
    | d x => exact h1
    | l x => exact h1
    | m x y => exact h1
    | s => exact absurd h.1 (by decide)
    | sc ns => exact h1
theorem ArgsOk.length {K : PySem.W.Frag} {F : Hp} {sa : Option Addr} : ∀ {its : List It} {vs : List V}, ArgsOk K F sa its vs → vs.length = its.length
  | _, _, .nil => rfl
  | _, _, .cons _ h => by simp [ArgsOk.length h]
structure Grw (sa : Option Addr) (S' : Sr) (F H F' H' : Hp) : Prop where
  ff : Same F F'
  fh : Same F' H'
  kp : ∀ a o, H a = some o → sa ≠ some a → H' a = some o
  nf : ∀ a, H a ≠ none → F a = none → F' a = none
  so : ∀ a, sa = some a → H' a = some (.lst [.int S'.1, .int S'.2])
  ft : ∀ a ps, F' a ≠ some (.tbl ps)
def ExE (K : PySem.W.Frag) (cls : Nat → Value) (E : XK) (e : Ex) (F H : Hp) : Prop := match e.arg with
  | none => E (cls e.k) none H
  | some (f, x) => ∀ d v, F d = none → H d = some (.xd [(f, v)]) → Rp K F v x → E (cls e.k) (some d) H
/-- what a def promises: fn told of data -/
def spI (K : PySem.W.Frag) (cls : Nat → Value) (n : Nat) (fn : List It → M DD) : Sp := fun vs H Q E => ∃ F sa S its, vs.length = n ∧ Same F H ∧ ArgsOk K F sa its vs ∧ (∀ a, sa = some a → F a = none ∧ H a = some (.lst [.int S.1, .int S.2])) ∧ (∀ a ps, F a ≠ some (.tbl ps)) ∧
  Post (fun d S' => ∀ v F' H', Grw sa S' F H F' H' → Rp K F' v d → Q v H') (fun e S' => ∀ F' H', Grw sa S' F H F' H' → ExE K cls E e F' H') (fn its S)
/-- a def of the module and what it reckons -/
structure FnC (P : Program) (w : World) (K : PySem.W.Frag) (mg : Str → Option Value) (base : Heap) (cls : Nat → Value) (x : Str) (n k : Nat) (fn : List It → M DD) : Prop where
  ex : ∃ f fd ps, FnOk P w K mg base (L2.CX P w) k f fd ps (spI K cls n fn) ∧ mg x = some (.ref f) ∧ PySem.W.keepIn K (.ref f) = true ∧ L2.Binds K fd ps []
theorem FnC.mono {P : Program} {w : World} {K : PySem.W.Frag} {mg : Str → Option Value} {base : Heap} {cls : Nat → Value} {x : Str} {n k k' : Nat} {fn : List It → M DD} (h : FnC P w K mg base cls x n k fn) (hk : k ≤ k') : FnC P w K mg base cls x n k' fn := by
  obtain ⟨f, fd, ps, F, r⟩ := h.ex
  exact ⟨f, fd, ps, F.mono hk, r⟩
def callM (fn : List It → M DD) (its : List It) : M DD := fun S => match its.any isS with
  | true => fn its S
  | false => match fn its (0, 0) with
    | none => none
    | some (r, _) => some (r, S)
def GoodI (B : Bs) (env : Env) (σ : L2.St) (F H : Hp) (sa : Option Addr) (Q : List V → Hp → Prop) : List It → Sr → Prop := fun its S => ∀ vs F' H', Ok B env S σ F' H' sa → Gw B sa F H F' H' → ArgsOk B.K F' sa its vs → Q vs H'
theorem Post.sameI {B : Bs} {W : WX} {env : Env} {σ : L2.St} {F F' H H' : Hp} {sa : Option Addr} {Q : List V → Hp → Prop} {r : Option (Except Ex (List It) × Sr)} (e : Gw B sa F H F' H') (g : Post (GoodI B env σ F H sa Q) (Bad B W env σ F H sa) r) : Post (GoodI B env σ F' H' sa Q) (Bad B W env σ F' H' sa) r :=
  g.mono (fun _ _ g vs F2 H2 k s r => g vs F2 H2 k (e.trans s) r) fun _ _ => Bad.of e
def SndI (B : Bs) (W : WX) (ta : TA) (f : Env → M (List It)) : Prop := ∀ env S σ F H sa, Ok B env S σ F H sa → ∀ Q : List V → Hp → Prop, Post (GoodI B env σ F H sa Q) (Bad B W env σ F H sa) (f env S) → ta σ H Q
structure DI (X : Cx) (B : Bs) (W : WX) (es : List Expr) (f : Env → M (List It)) : Prop where
  ex : ∃ te, PA X es te ∧ SndI B W te f ∧ ∀ env S its S', f env S = some (.ok its, S') → its.length = es.length
theorem bnd_ok {α β : Type} {m : M α} {k : α → M β} {S S' : Sr} {y : β} (h : bnd m k S = some (.ok y, S')) : ∃ x S1, m S = some (.ok x, S1) ∧ k x S1 = some (.ok y, S') := by
  unfold bnd at h
  cases e : m S with
  | none => rw [e] at h; cases h
  | some p =>
    obtain ⟨r, S1⟩ := p
    rw [e] at h
    cases r with
    | ok x => exact ⟨x, S1, rfl, h⟩
    | error x => cases h
def iNil : Env → M (List It) := fun _ => ret []
def iCons (f : Env → M DD) (r : Env → M (List It)) : Env → M (List It) := fun env => bnd (f env) fun x => bnd (r env) fun xs => ret (.d x :: xs)
def iSrc (i : Nat) (r : Env → M (List It)) : Env → M (List It) := fun env => match env[i]? with
  | some (some .s) => bnd (r env) fun xs => ret (.s :: xs)
  | some (some (.sc ns)) => bnd (r env) fun xs => ret (.sc ns :: xs)
  | _ => stk
def eCall (fn : List It → M DD) (as : Env → M (List It)) : Env → M DD := fun env => bnd (as env) fun its => callM fn its
section
variable {B : Bs} {W : WX} {X : Cx} {e : Expr} {es : List Expr} {fa : Env → M DD} {fr : Env → M (List It)} {pos : Pos}
theorem di_nil : DI X B W [] iNil := ⟨_, pa_nil, fun env S σ F H sa k Q h => h [] F H k Gw.refl .nil, fun env S its S' h => by cases h; rfl⟩
theorem di_cons (ha : DE X B W e fa) (hr : DI X B W es fr) (hs : starEach (e :: es) X.env = (false, eval e X.env) :: starEach es X.env := by rfl) : DI X B W (e :: es) (iCons fa fr) := by
  obtain ⟨ta, pa, sa⟩ := ha.ex
  obtain ⟨tr, pr, sr, lr⟩ := hr.ex
  refine ⟨_, pa_cons pa pr hs, fun env S σ F H sa' k Q h => sa env S σ F H sa' k _ ((Post.bnd h).imp fun x S1 h1 v F1 H1 k1 s1 r1 => ?_), fun env S its S' h => ?_⟩
  rotate_left
  · obtain ⟨x, S1, h1, h2⟩ := bnd_ok h
    obtain ⟨xs, S2, h3, h4⟩ := bnd_ok h2
    cases h4
    simp [lr _ _ _ _ h3]
  exact sr env S1 σ F1 H1 sa' k1 _ ((Post.bnd (h1.sameI s1)).imp fun xs S2 h2 vs F2 H2 k2 s2 r2 => h2 (v :: vs) F2 H2 k2 s2 (.cons (Rp.same s2.ff x r1) r2))
theorem di_src (i : Nat) {x : Str} (hr : DI X B W es fr) (hN : X.N[i]? = some x := by rfl) (hv : Vis X.env.scope x := by first | exact Or.inl rfl | exact Or.inr (Or.inl rfl) | exact Or.inr (Or.inr rfl)) (hd : (x == ("__debug__" : Str)) = false := by decide)
    (hcd : (x == ("__classdict__" : Str)) = false := by decide) (hs : starEach (.Name x pos :: es) X.env = (false, eval (.Name x pos) X.env) :: starEach es X.env := by rfl) : DI X B W (.Name x pos :: es) (iSrc i fr) := by
  obtain ⟨tr, pr, sr, lr⟩ := hr.ex
  refine ⟨_, pa_cons (pe_var hN hv hd hcd) pr hs, fun env S σ F H sa' k Q h => ?_, fun env S its S' h => ?_⟩
  rotate_left
  · unfold iSrc at h
    cases e : env[i]? with
    | none => rw [e] at h; cases h
    | some o =>
      rw [e] at h
      cases o with
      | none => cases h
      | some it =>
        cases it with
        | d x => cases h
        | l xs => cases h
        | m _ _ => cases h
        | s =>
          obtain ⟨xs, S2, h3, h4⟩ := bnd_ok h
          cases h4
          simp [lr _ _ _ _ h3]
        | sc ns =>
          obtain ⟨xs, S2, h3, h4⟩ := bnd_ok h
          cases h4
          simp [lr _ _ _ _ h3]
  unfold iSrc at h
  cases e : env[i]? with
  | none => rw [e] at h; exact h.elim
  | some o =>
    cases o with
    | none => rw [e] at h; exact h.elim
    | some it =>
      cases it with
      | d x => rw [e] at h; exact h.elim
      | l xs => rw [e] at h; exact h.elim
      | m _ _ => rw [e] at h; exact h.elim
      | s =>
        rw [e] at h
        obtain ⟨v, h1, h2⟩ := k.sl i _ e
        exact ⟨v, h1, sr env S σ F H sa' k _ ((Post.bnd h).imp fun xs S2 h2' vs F2 H2 k2 s2 r2 => h2' (v :: vs) F2 H2 k2 s2 (.cons h2 r2))⟩
      | sc ns =>
        rw [e] at h
        obtain ⟨v, h1, h2⟩ := k.sl i _ e
        refine ⟨v, h1, sr env S σ F H sa' k _ ((Post.bnd h).imp fun xs S2 h2' vs F2 H2 k2 s2 r2 => h2' (v :: vs) F2 H2 k2 s2 (.cons ?_ r2))⟩
        obtain ⟨a, e1, e2⟩ := h2
        exact ⟨a, e1, Same.seq s2.ff e2⟩
/-- what the call's end means for the caller -/
theorem call_snd {fn : List It → M DD} {n : Nat} {env : Env} {S : Sr} {σ : L2.St} {F H : Hp} {sa : Option Addr} {its : List It} {vs : List V} {Q : VK} (k : Ok B env S σ F H sa) (ha : ArgsOk B.K F sa its vs) (hn : vs.length = n)
    (h : Post (Good B env σ F H sa Q) (Bad B W env σ F H sa) (callM fn its S)) : spI B.K B.cls n fn vs H Q (WE W σ) := by
  unfold callM at h
  cases hS : its.any isS with
  | true =>
    rw [hS] at h
    refine ⟨F, sa, S, its, hn, k.fh, ha, fun a e => ⟨(k.so a e).1, (k.so a e).2.1⟩, k.ft, h.mono (fun d S' g v F' H' w r => ?_) fun e S' g F' H' w => ?_⟩
    · obtain ⟨k', gw⟩ := k.grow w.ff w.fh w.kp w.nf w.so w.ft
      exact g v F' H' k' gw r
    · obtain ⟨k', gw⟩ := k.grow w.ff w.fh w.kp w.nf w.so w.ft
      exact g F' H' k' gw
  | false =>
    rw [hS] at h
    simp only at h
    cases e : fn its (0, 0) with
    | none => rw [e] at h; exact h.elim
    | some p =>
      obtain ⟨r, S0⟩ := p
      rw [e] at h
      refine ⟨F, none, (0, 0), its, hn, k.fh, ha.pure hS, (fun a e => by cases e), k.ft, ?_⟩
      rw [e]
      have gr : ∀ F' H', Grw none S0 F H F' H' → Ok B env S σ F' H' sa ∧ Gw B sa F H F' H' := fun F' H' w =>
        k.grow w.ff w.fh (fun a o q _ => w.kp a o q (fun z => by cases z)) w.nf (fun a q => w.kp a _ (k.so a q).2.1 fun z => by cases z) w.ft
      cases r with
      | ok d =>
        exact fun v F' H' w r => h v F' H' (gr F' H' w).1 (gr F' H' w).2 r
      | error x => exact fun F' H' w => h F' H' (gr F' H' w).1 (gr F' H' w).2
theorem de_call {x : Str} {p : Pos} {n kk m : Nat} {fn : List It → M DD} (Fc : FnC X.prog X.w X.K X.mg X.base B.cls x n kk fn) (hr : Room m X.A) (hkm : kk ≤ m) (hK : B.K = X.K) (tk : Takes X W) (ha : DI X B W (e :: es) fr) (hn : (e :: es).length = n := by rfl)
    (hg : Gl X x := by rfl) (hdb : (x == ("__debug__" : Str)) = false := by decide) (he : starEach (e :: es) X.env = (false, eval e X.env) :: starEach es X.env := by rfl) (hpl : (backTo pos (starEach es X.env)).any (·.1) = false := by rfl) :
    DE X B W (.Call (.Name x p) (e :: es) [] pos) (eCall fn fr) := by
  obtain ⟨f, fd, ps, F, hm, hk, hb⟩ := Fc.ex
  obtain ⟨ta, pa, sa, la⟩ := ha.ex
  refine ⟨_, pe_callS F (hr.mono hkm) hg hm hk hb (fun σ => passAt tk σ) pa hdb he hpl, fun env S σ F H sa' k Q h => ?_⟩
  have h2 := Post.bnd h
  refine sa env S σ F H sa' k _ ?_
  cases q : fr env S with
  | none => rw [q] at h2; exact h2.elim
  | some pr =>
    obtain ⟨r, S1⟩ := pr
    rw [q] at h2
    cases r with
    | error x => exact h2
    | ok its =>
      intro vs F1 H1 k1 s1 r1
      rw [← hK]
      exact call_snd (W := W) k1 r1 (by rw [r1.length, ← hn]; exact la env S its S1 q) (h2.same s1)
end
end AU
namespace AU
open PySem PySem.Spec PyProof.Rows L2

section
variable {B : Bs} {env env2 : Env} {S S2 : Sr} {σ σ2 : L2.St} {F H F' H' : Hp} {sa : Option Addr}
/-- what was known of the slots goes on with the heaps -/
theorem Ok.carry (k : Ok B env S σ F H sa) (g : Gw B sa F H F' H') (k2 : Ok B env2 S2 σ2 F' H' sa) : Ok B env S2 σ F' H' sa := by
  refine ⟨k2.ff, k2.fh, k2.hh, k2.nf, k2.tb, k2.sa0, k2.so, k.len, fun i it e => ?_, k.dj, k2.ft⟩
  obtain ⟨v, h1, h2⟩ := k.sl i it e
  refine ⟨v, h1, ?_⟩
  cases it with
  | d x => exact Rp.same g.ff x h2
  | l xs =>
    obtain ⟨a, vs, e1, e2, e3, e4, e5, e6⟩ := h2
    exact ⟨a, vs, e1, g.nf a _ e5 .lst e2, e3, e4, g.kp a _ e5 e4 .lst, RpA.same g.ff xs e6⟩
  | m ks ws =>
    obtain ⟨a, xs, e1, e2, e3, e4, e5, e6⟩ := h2
    exact ⟨a, xs, e1, g.nf a _ e5 .dx e2, e3, e4, g.kp a _ e5 e4 .dx, e6.same g.ff⟩
  | s => exact h2
  | sc ns =>
    obtain ⟨a, e1, e2⟩ := h2
    exact ⟨a, e1, Same.seq g.ff e2⟩
/-- a new object is laid that is not laid down as data -/
theorem Ok.newH (k : Ok B env S σ F H sa) {p : Addr} (hp : H p = none) (o : HO) : Ok B env S σ F (upd H p o) sa ∧ Gw B sa F H F (upd H p o) ∧ F p = none ∧ Fr B B.H0 p ∧ sa ≠ some p := by
  have sH : Same H (upd H p o) := fun b u e => by
    rw [upd_ne (ne_of_none e hp)]
    exact e
  have fp := k.fh.free hp
  have hsa : sa ≠ some p := fun z => by
    have e := (k.so p z).2.1
    rw [hp] at e
    cases e
  have h0 : Fr B B.H0 p := k.fr0 (Fr.of hp)
  obtain ⟨k1, g1⟩ := k.grow (S' := S) (F' := F) (H' := upd H p o) (Same.refl F) (k.fh.trans sH) (fun a o e _ => sH _ _ e) (fun a _ h => h) (fun a e => sH _ _ (k.so a e).2.1) k.ft
  exact ⟨k1, g1, fp, h0, hsa⟩
/-- no slot's own object stands at a -/
def Apart (env : Env) (σ : L2.St) (a : Addr) : Prop := ∀ (i : Nat) (x : It), env[i]? = some (some x) → isOwn x = true → σ[i]? ≠ some (some (.ref a))
/-- an object of its own (not of the tables) -/
def OwnO (o : HO) : Prop := (∃ vs, o = .lst vs) ∨ ∃ a xs, o = dxO a xs
theorem OwnO.kp {o : HO} (h : OwnO o) : Kp B o := by
  rcases h with ⟨vs, rfl⟩ | ⟨a, xs, rfl⟩
  · exact .lst
  · exact .dx
theorem OwnO.ntbl {o : HO} (h : OwnO o) : ∀ ps, o ≠ .tbl ps := by
  rcases h with ⟨vs, rfl⟩ | ⟨a, xs, rfl⟩ <;> intro ps z <;> cases z
theorem dxO_code (a : Addr) (xs : List DEnt) (c : Addr) (x : Str) : dxO a xs ≠ LamX.CodeO c x := by
  intro z
  unfold LamX.CodeO dxO at z
  have z := HO.ext.inj z
  let ob : Obj := { cls := .none, data := .fields #[.none, .str x 0] }
  let hp : Heap := { objs := Array.replicate (c + 1) ob }
  have hg : ∀ b o, hp.get? b = some o → o = ob := fun b o e => by
    unfold Heap.get? at e
    have q : hp.objs[b]? = if b < c + 1 then some ob else none := by
      show (Array.replicate (c + 1) ob)[b]? = _
      rw [Array.getElem?_replicate]
    rw [q] at e
    by_cases hb : b < c + 1
    · rw [if_pos hb] at e
      exact (Option.some.inj e).symm
    · rw [if_neg hb] at e
      cases e
  have hc : hp.get? c = some ob := by
    unfold Heap.get?
    have q : hp.objs[c]? = some ob := by
      show (Array.replicate (c + 1) ob)[c]? = _
      rw [Array.getElem?_replicate, if_pos (Nat.lt_succ_self c)]
    rw [q]
  have q : dxP a xs hp := by
    rw [z]
    exact ⟨ob, _, 0, hc, rfl, rfl⟩
  obtain ⟨_, _, _, _, _, o, es, ep, h1, _, h3, _⟩ := q
  rw [hg _ _ h1] at h3
  cases h3
theorem OwnO.ncode {o : HO} {x : Str} {c : Addr} (h : OwnO o) : o ≠ LamX.CodeO c x := by
  rcases h with ⟨vs, rfl⟩ | ⟨a, xs, rfl⟩
  · intro z
    unfold LamX.CodeO at z
    cases z
  · exact dxO_code a xs c x
theorem Ok.apart (k : Ok B env S σ F H sa) {p : Addr} (hp : Fr B H p) : Apart env σ p := fun j y ej oy zj => by
  obtain ⟨v, e1, e2⟩ := k.sl j _ ej
  rw [zj] at e1
  cases e1
  cases y with
  | l ys =>
    obtain ⟨b, us, c1, _, _, _, c5, _⟩ := e2
    cases c1
    exact hp _ c5 .lst
  | m ks ws =>
    obtain ⟨b, us, c1, _, _, _, c5, _⟩ := e2
    cases c1
    exact hp _ c5 .dx
  | d x => cases oy
  | s => cases oy
  | sc ns => cases oy
/-- the object that stands alone at a changes -/
theorem Ok.mut (k : Ok B env S σ F H sa) {a : Addr} {u w : HO} (ha : H a = some u) (hu : OwnO u) (hF : F a = none) (h0 : Fr B B.H0 a) (hs : sa ≠ some a) (hsl : Apart env σ a) :
    Ok B env S σ F (upd H a w) sa := by
  refine ⟨k.ff, fun b u e => ?_, fun b u e h1 h2 => ?_, k.nf, fun p hp => ?_, k.sa0, fun b e => ?_, k.len, fun i it e => ?_, k.dj, k.ft⟩
  · rw [upd_ne (ne_of_none e hF)]
    exact k.fh _ _ e
  · have ne : b ≠ a := fun z => h0 u (z ▸ e) h2
    rw [upd_ne ne]
    exact k.hh b u e h1 h2
  · obtain ⟨ps, e1, e2, e3⟩ := k.tb p hp
    have ne1 : p.1 ≠ a := fun z => by
      rw [z, ha] at e1
      exact hu.ntbl ps (Option.some.inj e1)
    refine ⟨ps, by rw [upd_ne ne1]; exact e1, e2, fun pos cv hc => ?_⟩
    obtain ⟨c, c1, c2⟩ := e3 pos cv hc
    have ne2 : c ≠ a := fun z => by
      rw [z, ha] at c2
      exact hu.ncode (Option.some.inj c2)
    exact ⟨c, c1, by rw [upd_ne ne2]; exact c2⟩
  · obtain ⟨h1, h2, h3⟩ := k.so b e
    have ne : b ≠ a := fun z => hs (z ▸ e)
    exact ⟨h1, by rw [upd_ne ne]; exact h2, h3⟩
  · obtain ⟨v, h1, h2⟩ := k.sl i it e
    refine ⟨v, h1, ?_⟩
    cases it with
    | d x => exact h2
    | l xs =>
      obtain ⟨b, us, e1, e2, e3, e4, e5, e6⟩ := h2
      have ne : b ≠ a := fun z => by
        subst e1
        rw [z] at h1
        exact hsl i _ e rfl h1
      exact ⟨b, us, e1, e2, e3, e4, by rw [upd_ne ne]; exact e5, e6⟩
    | m ks ws =>
      obtain ⟨b, us, e1, e2, e3, e4, e5, e6⟩ := h2
      have ne : b ≠ a := fun z => by
        subst e1
        rw [z] at h1
        exact hsl i _ e rfl h1
      exact ⟨b, us, e1, e2, e3, e4, by rw [upd_ne ne]; exact e5, e6⟩
    | s => exact h2
    | sc ns => exact h2
/-- a slot gets an object of its own -/
theorem Ok.setO (k : Ok B env S σ F H sa) (i : Nat) {p : Addr} {it0 : It} (hit : ItOk B F H sa it0 (.ref p))
    (hd : ∀ (j : Nat) (y : It), j ≠ i → env[j]? = some (some y) → isOwn y = true → σ[j]? ≠ some (some (.ref p))) : Ok B (env.set i (some it0)) S (σ.set i (some (.ref p))) F H sa := by
  refine ⟨k.ff, k.fh, k.hh, k.nf, k.tb, k.sa0, k.so, by simpa using k.len, fun j it e => ?_, fun j1 j2 x y a h1 h2 o1 h3 o2 h4 => ?_, k.ft⟩
  · rcases get_set e with ⟨rfl, e2, hl⟩ | ⟨ne, e2⟩
    · cases e2
      exact ⟨.ref p, by rw [List.getElem?_set_self (by rw [← k.len]; exact hl)], hit⟩
    · obtain ⟨w, h1, h2⟩ := k.sl j it e2
      exact ⟨w, by rw [List.getElem?_set_ne ne]; exact h1, h2⟩
  · rcases get_set h2 with ⟨q1, e1, l1⟩ | ⟨n1, e1⟩
    · rcases get_set h3 with ⟨q2, e2, _⟩ | ⟨n2, e2⟩
      · exact absurd (q1.symm.trans q2) h1
      · subst q1
        rw [List.getElem?_set_self (by rw [← k.len]; exact l1)] at h4
        cases h4
        rw [List.getElem?_set_ne n2]
        exact hd j2 y (Ne.symm n2) e2 o2
    · rw [List.getElem?_set_ne n1] at h4
      rcases get_set h3 with ⟨q2, e2, l2⟩ | ⟨n2, e2⟩
      · subst q2
        rw [List.getElem?_set_self (by rw [← k.len]; exact l2)]
        intro z
        cases z
        exact hd j1 x (Ne.symm n1) e1 o1 h4
      · rw [List.getElem?_set_ne n2]
        exact k.dj j1 j2 x y a h1 e1 o1 e2 o2 h4
theorem Ok.setL (k : Ok B env S σ F H sa) (i : Nat) {p : Addr} {vs : List V} {ds : List DD} (hF : F p = none) (h0 : Fr B B.H0 p) (hs : sa ≠ some p) (hp : H p = some (.lst vs)) (r : RpA B.K F vs ds)
    (hd : ∀ (j : Nat) (y : It), j ≠ i → env[j]? = some (some y) → isOwn y = true → σ[j]? ≠ some (some (.ref p))) : Ok B (env.set i (some (.l ds))) S (σ.set i (some (.ref p))) F H sa :=
  k.setO i ⟨p, vs, rfl, hF, h0, hs, hp, r⟩ hd
theorem Ok.setM (k : Ok B env S σ F H sa) (i : Nat) {p : Addr} {xs : List DEnt} {ks vs : List DD} (hF : F p = none) (h0 : Fr B B.H0 p) (hs : sa ≠ some p) (hp : H p = some (dxO p xs)) (r : MpOk B.K F xs ks vs)
    (hd : ∀ (j : Nat) (y : It), j ≠ i → env[j]? = some (some y) → isOwn y = true → σ[j]? ≠ some (some (.ref p))) : Ok B (env.set i (some (.m ks vs))) S (σ.set i (some (.ref p))) F H sa :=
  k.setO i ⟨p, xs, rfl, hF, h0, hs, hp, r⟩ hd
/-- an object of its own is laid down as data: what stands at its place may be said otherwise -/
theorem Ok.freezeO (k : Ok B env S σ F H sa) {i : Nat} {it0 : It} {a : Addr} {u w : HO} {d0 : DD} (e : env[i]? = some (some it0)) (ho : isOwn it0 = true) (hv : σ[i]? = some (some (.ref a))) (e2 : F a = none) (e3 : Fr B B.H0 a) (e4 : sa ≠ some a) (e5 : H a = some u) (hu : OwnO u)
    (hw : ∀ ps, w ≠ .tbl ps) (hr : Rp B.K (upd F a w) (.ref a) d0) : Same F (upd F a w) ∧ Ok B (env.set i (some (.d d0))) S σ (upd F a w) (upd H a w) sa := by
  have sF : Same F (upd F a w) := fun b u q => by
    rw [upd_ne (ne_of_none q e2)]
    exact q
  have hi : i < env.length := (List.getElem?_eq_some_iff.mp e).1
  refine ⟨sF, k.ff.trans sF, fun b u q => ?_, fun b u h0 h1 h2 => ?_, fun b u h0 h1 h2 => ?_, fun p hp => ?_, k.sa0, fun b q => ?_, by simpa using k.len, fun j it q => ?_, fun j1 j2 x y b h1 h2 o1 h3 o2 h4 => ?_, fun b ps hq => ?_⟩
  · by_cases hb : b = a
    · subst hb
      rw [upd_same] at q ⊢
      exact q
    · rw [upd_ne hb] at q ⊢
      exact k.fh _ _ q
  · have ne : b ≠ a := fun z => e3 u (z ▸ h0) h2
    rw [upd_ne ne]
    exact k.hh b u h0 h1 h2
  · have ne : b ≠ a := fun z => e3 u (z ▸ h0) h1
    rw [upd_ne ne]
    exact k.nf b u h0 h1 h2
  · obtain ⟨ps, q1, q2, q3⟩ := k.tb p hp
    have ne1 : p.1 ≠ a := fun z => by
      rw [z, e5] at q1
      exact hu.ntbl ps (Option.some.inj q1)
    refine ⟨ps, by rw [upd_ne ne1]; exact q1, q2, fun pos cv hc => ?_⟩
    obtain ⟨c, c1, c2⟩ := q3 pos cv hc
    have ne2 : c ≠ a := fun z => by
      rw [z, e5] at c2
      exact hu.ncode (Option.some.inj c2)
    exact ⟨c, c1, by rw [upd_ne ne2]; exact c2⟩
  · obtain ⟨h1, h2, h3⟩ := k.so b q
    have ne : b ≠ a := fun z => e4 (z ▸ q)
    exact ⟨by rw [upd_ne ne]; exact h1, by rw [upd_ne ne]; exact h2, h3⟩
  · rcases get_set q with ⟨rfl, q2, _⟩ | ⟨ne, q2⟩
    · cases q2
      exact ⟨.ref a, hv, hr⟩
    · obtain ⟨v, w1, w2⟩ := k.sl j it q2
      refine ⟨v, w1, ?_⟩
      cases it with
      | d x => exact Rp.same sF x w2
      | l ys =>
        obtain ⟨b, us, c1, c2, c3, c4, c5, c6⟩ := w2
        have nb : b ≠ a := fun z => by
          subst c1
          rw [z] at w1
          exact k.dj i j _ _ a ne e ho q2 rfl hv w1
        exact ⟨b, us, c1, by rw [upd_ne nb]; exact c2, c3, c4, by rw [upd_ne nb]; exact c5, RpA.same sF _ c6⟩
      | m ks ws =>
        obtain ⟨b, us, c1, c2, c3, c4, c5, c6⟩ := w2
        have nb : b ≠ a := fun z => by
          subst c1
          rw [z] at w1
          exact k.dj i j _ _ a ne e ho q2 rfl hv w1
        exact ⟨b, us, c1, by rw [upd_ne nb]; exact c2, c3, c4, by rw [upd_ne nb]; exact c5, c6.same sF⟩
      | s => exact w2
      | sc ns =>
        obtain ⟨b, c1, c2⟩ := w2
        exact ⟨b, c1, Same.seq sF c2⟩
  · rcases get_set h2 with ⟨_, c, _⟩ | ⟨n1, c1⟩
    · cases c <;> cases o1
    · rcases get_set h3 with ⟨_, c, _⟩ | ⟨n2, c2⟩
      · cases c <;> cases o2
      · exact k.dj j1 j2 x y b h1 c1 o1 c2 o2 h4
  · by_cases hb : b = a
    · rw [hb, upd_same] at hq
      exact hw ps (Option.some.inj hq)
    · rw [upd_ne hb] at hq
      exact k.ft b ps hq
theorem upd_self {H : Hp} {a : Addr} {u : HO} (h : H a = some u) : upd H a u = H := by
  funext b
  unfold upd
  split
  · rename_i e
    rw [e, h]
  · rfl
/-- a list of its own is laid down as data -/
theorem Ok.freeze (k : Ok B env S σ F H sa) {i : Nat} {xs : List DD} (e : env[i]? = some (some (.l xs))) : ∃ F', Same F F' ∧ Ok B (env.set i (some (.d (.lst xs)))) S σ F' H sa := by
  obtain ⟨v, hv, a, vs, rfl, e2, e3, e4, e5, e6⟩ := k.sl i _ e
  have sF : Same F (upd F a (.lst vs)) := fun b u q => by
    rw [upd_ne (ne_of_none q e2)]
    exact q
  obtain ⟨s, q⟩ := k.freezeO (w := .lst vs) (d0 := .lst xs) e rfl hv e2 e3 e4 e5 (.inl ⟨vs, rfl⟩) (fun ps z => by cases z) (.lst upd_same (RpA.same sF _ e6))
  rw [upd_self e5] at q
  exact ⟨_, s, q⟩
/-- a dict of its own is held from now on -/
theorem Ok.freezeM (k : Ok B env S σ F H sa) {i : Nat} {ks vs : List DD} (e : env[i]? = some (some (.m ks vs))) : ∃ a xs, H a = some (dxO a xs) ∧ ∀ o, ∃ F', Same F F' ∧ Ok B (env.set i (some (.d (.dct ks vs)))) S σ F' (upd H a (.frz o (dxO a xs))) sa := by
  obtain ⟨v, hv, a, xs, rfl, e2, e3, e4, e5, e6⟩ := k.sl i _ e
  refine ⟨a, xs, e5, fun o => ?_⟩
  have sF : Same F (upd F a (.frz o (dxO a xs))) := fun b u q => by
    rw [upd_ne (ne_of_none q e2)]
    exact q
  obtain ⟨s, q⟩ := k.freezeO (w := .frz o (dxO a xs)) (d0 := .dct ks vs) e rfl hv e2 e3 e4 e5 (.inr ⟨a, xs, rfl⟩) (fun ps z => by cases z) (.dct upd_same (RpA.same sF _ e6.k) (RpA.same sF _ e6.v) e6.e)
  exact ⟨_, s, q⟩
end

/-! ### targets -/
def SndG (B : Bs) (g : TG) (fg : Env → DD → Option Env) (js : List Nat) : Prop := ∀ env S σ F H sa v d env', Ok B env S σ F H sa → Rp B.K F v d → fg env d = some env' → ∀ Q : L2.St → Hp → Prop,
  (∀ σ', Ok B env' S σ' F H sa → σ'.length = σ.length → (∀ i, i ∉ js → σ'[i]? = σ[i]?) → Q σ' H) → g v σ H Q
def SndGs (B : Bs) (g : TGs) (fg : Env → List DD → Option Env) (js : List Nat) : Prop := ∀ env S σ F H sa vs ds env', Ok B env S σ F H sa → RpA B.K F vs ds → fg env ds = some env' → ∀ Q : L2.St → Hp → Prop,
  (∀ σ', Ok B env' S σ' F H sa → σ'.length = σ.length → (∀ i, i ∉ js → σ'[i]? = σ[i]?) → Q σ' H) → g vs σ H Q
structure DG (X : Cx) (B : Bs) (tg : Expr) (fg : Env → DD → Option Env) (js : List Nat) : Prop where
  ex : ∃ g, PG X tg g ∧ SndG B g fg js
structure DGs (X : Cx) (B : Bs) (tg : List Expr) (fg : Env → List DD → Option Env) (js : List Nat) : Prop where
  ex : ∃ g, PGs X tg g ∧ SndGs B g fg js
def gN (i : Nat) : Env → DD → Option Env := fun env d => some (env.set i (some (.d d)))
def gT (n : Nat) (f : Env → List DD → Option Env) : Env → DD → Option Env := fun env d => match d with
  | .tup ds => if ds.length = n then f env ds else none
  | _ => none
def gsN : Env → List DD → Option Env := fun env ds => match ds with
  | [] => some env
  | _ => none
def gsC (g : Env → DD → Option Env) (r : Env → List DD → Option Env) : Env → List DD → Option Env := fun env ds => match ds with
  | d :: ds => (g env d).bind fun e => r e ds
  | [] => none
section
variable {B : Bs} {X : Cx} {e : Expr} {es : List Expr} {pos : Pos}
theorem sndG_name (i : Nat) : SndG B (gName i) (gN i) [i] := fun env S σ F H sa v d env' k r h Q q => by
  cases h
  exact q _ (k.setD i r) (by simp) fun j hj => List.getElem?_set_ne (fun z => hj (by simp [z]))
theorem dg_name (i : Nat) {x : Str} (hN : X.N.Nodup) (hi : X.N[i]? = some x := by rfl) (hx : Loc X.env.scope x := by first | exact Or.inl rfl | exact Or.inr rfl) (hf : X.fn x = true ∨ X.env.scope.names.lookup x = some .local := by first | exact .inl rfl | exact .inr rfl) : DG X B (.Name x pos) (gN i) [i] :=
  ⟨_, pg_name hN hi hx hf, sndG_name i⟩
theorem dgs_nil : DGs X B [] gsN [] := ⟨_, pgs_nil, fun env S σ F H sa vs ds env' k r h Q q => by
  cases r with
  | nil =>
    cases h
    exact ⟨rfl, q σ k rfl fun _ _ => rfl⟩
  | cons _ _ => cases h⟩
theorem dgs_cons {fg : Env → DD → Option Env} {fr : Env → List DD → Option Env} {js ks : List Nat} (h1 : DG X B e fg js) (h2 : DGs X B es fr ks) (hs : (assignEach (e :: es) X.env).map (·.2) = assign e X.env :: (assignEach es X.env).map (·.2) := by rfl) : DGs X B (e :: es) (gsC fg fr) (js ++ ks) := by
  obtain ⟨g, p, s⟩ := h1.ex
  obtain ⟨g2, p2, s2⟩ := h2.ex
  refine ⟨_, pgs_cons p p2 hs, fun env S σ F H sa vs ds env' k r h Q q => ?_⟩
  cases r with
  | nil => cases h
  | @cons v vs d ds r1 r2 =>
    have h : (fg env d).bind (fun e => fr e ds) = some env' := h
    cases e1 : fg env d with
    | none => rw [e1] at h; cases h
    | some en =>
      rw [e1] at h
      have h : fr en ds = some env' := h
      refine ⟨v, vs, rfl, s env S σ F H sa v d en k r1 e1 _ fun σ1 k1 l1 u1 => ?_⟩
      refine s2 en S σ1 F H sa vs ds env' k1 r2 h _ fun σ2 k2 l2 u2 => q σ2 k2 (l2.trans l1) fun i hi => ?_
      simp only [List.mem_append, not_or] at hi
      rw [u2 i hi.2, u1 i hi.1]
theorem dg_tup {n kk : Nat} {fr : Env → List DD → Option Env} {js : List Nat} (hK : B.K = X.K) (hc : X.calm = true) (h : DGs X B es fr js) (hn : (assignEach es X.env).length = n := by rfl) (hst : (assignEach es X.env).findIdx? (·.1) = none := by rfl) : DG X B (.Tuple es kk pos) (gT n fr) js := by
  obtain ⟨g, p, s⟩ := h.ex
  refine ⟨_, pg_tup hc p hn hst, fun env S σ F H sa v d env' k r h Q q => ?_⟩
  cases d with
  | tup ds =>
    obtain ⟨a, xs, rfl, h1, h2⟩ := r.tup_inv
    unfold gT at h
    simp only at h
    by_cases hl : ds.length = n
    · rw [if_pos hl] at h
      exact ⟨a, xs, rfl, by rw [← hK]; exact sqT_same k.fh h1, by rw [h2.length]; exact hl, s env S σ F H sa xs ds env' k h2 h Q q⟩
    · rw [if_neg hl] at h
      cases h
  | _ => cases h
end
end AU
namespace AU
open PySem PySem.Spec PyProof.Rows L2

/-! ### what is walked -/
structure ItW (K : PySem.W.Frag) (J : L2.It) (items : List DD) (F : Hp) : Prop where
  goes : ∀ (i : Nat) (H : Hp), i < items.length → Same F H → J.go i H
  stops : ∀ H, Same F H → J.stop items.length H
  yields : ∀ (i : Nat) (H : Hp) (v : V) (H' : Hp), i < items.length → Same F H → J.yld i H v H' → (H' = H ∧ ∃ d, items[i]? = some d ∧ Rp K F v d) ∨
    (∃ T vs ds, v = .ref T ∧ H T = none ∧ H' = upd H T (.tup vs) ∧ items[i]? = some (.tup ds) ∧ RpA K F vs ds)
def GoodJ (B : Bs) (env : Env) (σ : L2.St) (F H : Hp) (sa : Option Addr) (R : L2.It → Hp → Prop) : List DD → Sr → Prop := fun items S => ∀ J F' H', Ok B env S σ F' H' sa → Gw B sa F H F' H' → ItW B.K J items F' → R J H'
def SndJ (B : Bs) (W : WX) (wi : TI) (fi : Env → M (List DD)) : Prop := ∀ env S σ F H sa, Ok B env S σ F H sa → ∀ R : L2.It → Hp → Prop, Post (GoodJ B env σ F H sa R) (Bad B W env σ F H sa) (fi env S) → wi σ H R
structure DJ (X : Cx) (B : Bs) (W : WX) (tg iter : Expr) (fi : Env → M (List DD)) : Prop where
  ex : ∃ wi, PI X tg iter wi ∧ SndJ B W wi fi
def jSeq (f : Env → M DD) : Env → M (List DD) := fun env => bnd (f env) fun d => match d with
  | .lst xs => ret xs
  | .tup xs => ret xs
  | .dct ks _ => ret ks
  | _ => stk
def rngD (lo : Int) (n : Nat) : List DD := (List.range n).map fun i => .int (lo + (i : Nat))
def jRng1 (f : Env → M (List DD)) : Env → M (List DD) := fun env => bnd (f env) fun ds => match ds with
  | [.int j] => if (decide (-100000 ≤ j) && decide (j ≤ 100000)) = true then ret (rngD 0 j.toNat) else stk
  | _ => stk
def jRng2 (f : Env → M (List DD)) : Env → M (List DD) := fun env => bnd (f env) fun ds => match ds with
  | [.int i, .int j] => if (decide (-(2 ^ 62) ≤ i) && decide (i < 2 ^ 62) && decide (-(2 ^ 62) ≤ j) && decide (j < 2 ^ 62)) = true then ret (rngD i (j - i).toNat) else stk
  | _ => stk
def enumD : Nat → List DD → List DD
  | _, [] => []
  | i, x :: xs => .tup [.int (i : Nat), x] :: enumD (i + 1) xs
theorem enumD_length : ∀ (i : Nat) (xs : List DD), (enumD i xs).length = xs.length
  | _, [] => rfl
  | i, x :: xs => by simp [enumD, enumD_length (i + 1) xs]
theorem enumD_get : ∀ (k : Nat) (xs : List DD) (i : Nat) (x : DD), xs[i]? = some x → (enumD k xs)[i]? = some (.tup [.int ((k + i : Nat) : Int), x])
  | _, [], i, x, h => by simp at h
  | k, y :: xs, 0, x, h => by
    simp at h
    subst h
    simp [enumD]
  | k, y :: xs, i + 1, x, h => by
    have q := enumD_get (k + 1) xs i x (by simpa using h)
    rw [show k + 1 + i = k + (i + 1) by omega] at q
    simpa [enumD] using q
def jEnum (f : Env → M (List DD)) : Env → M (List DD) := fun env => bnd (f env) fun ds => match ds with
  | [.lst xs] => ret (enumD 0 xs)
  | [.tup xs] => ret (enumD 0 xs)
  | _ => stk
def zipD : List DD → List DD → List DD
  | x :: xs, y :: ys => .tup [x, y] :: zipD xs ys
  | _, _ => []
def jZip (f : Env → M (List DD)) : Env → M (List DD) := fun env => bnd (f env) fun ds => match ds with
  | [.lst xs, .lst ys] => ret (zipD xs ys)
  | [.tup xs, .tup ys] => ret (zipD xs ys)
  | _ => stk
theorem zipD_get : ∀ (xs ys : List DD) (i : Nat) (x y : DD), xs[i]? = some x → ys[i]? = some y → (zipD xs ys)[i]? = some (.tup [x, y])
  | [], _, i, x, y, h, _ => by simp at h
  | _ :: _, [], i, x, y, _, h => by simp at h
  | a :: xs, b :: ys, 0, x, y, h, h2 => by
    simp at h h2
    subst h h2
    rfl
  | a :: xs, b :: ys, i + 1, x, y, h, h2 => by
    have := zipD_get xs ys i x y (by simpa using h) (by simpa using h2)
    simpa [zipD] using this
theorem zipD_length : ∀ (xs ys : List DD), (zipD xs ys).length = min xs.length ys.length
  | [], _ => by simp [zipD]
  | _ :: _, [] => by simp [zipD]
  | a :: xs, b :: ys => by simp [zipD, zipD_length xs ys]
section
variable {K : PySem.W.Frag} {F : Hp} {a b : Addr} {vs ws : List V} {ds es : List DD}
theorem sqL_up {H : Hp} (h : SqL K F a vs) (e : Same F H) : SqL K H a vs := Same.seq e h
theorem itw_list (h : SqL K F a vs) (r : RpA K F vs ds) : ItW K (Itl K a) ds F := by
  have hl := r.length
  refine ⟨fun i H hi e => ⟨vs, vs[i]'(by omega), sqL_up h e, by simp⟩, fun H e => ⟨vs, sqL_up h e, by omega⟩, fun i H v H' hi e y => .inl ⟨y.1, ?_⟩⟩
  exact r.get' (y.2 vs (sqL_up h e))
theorem itw_tup (h : SqT K F a vs) (r : RpA K F vs ds) : ItW K (Itt K a) ds F := by
  have hl := r.length
  refine ⟨fun i H hi e => ⟨vs, vs[i]'(by omega), sqT_same e h, by simp⟩, fun H e => ⟨vs, sqT_same e h, by omega⟩, fun i H v H' hi e y => .inl ⟨y.1, ?_⟩⟩
  exact r.get' (y.2 vs (sqT_same e h))
theorem itw_dict {o : Obj} {xs : List DEnt} {ks : List DD} (h : F a = some (.frz o (dxO a xs))) (r : RpA K F (xs.map fun x => V.ref x.2.1) ks) : ItW K (Itx a o xs) ks F := by
  have hl := r.length
  rw [List.length_map] at hl
  refine ⟨fun i H hi e => ⟨e _ _ h, by omega⟩, fun H e => ⟨e _ _ h, by omega⟩, fun i H v H' hi e y => .inl ⟨y.1, ?_⟩⟩
  obtain ⟨x, hx, rfl⟩ := y.2
  exact r.get' (by rw [List.getElem?_map, hx]; rfl)
theorem itw_rng {lo : Int} {n : Nat} : ItW K (Itr lo n) (rngD lo n) F := by
  have hl : (rngD lo n).length = n := by simp [rngD]
  refine ⟨fun i H hi e => (by rw [hl] at hi; exact hi), fun H e => (by rw [hl]; exact Nat.le_refl _), fun i H v H' hi e y => .inl ⟨y.1, .int (lo + (i : Nat)), ?_, ?_⟩⟩
  · rw [hl] at hi
    simp [rngD, hi]
  · rw [y.2]
    exact .int _
theorem itw_enumL (h : SqL K F a vs) (r : RpA K F vs ds) : ItW K (Ite K a) (enumD 0 ds) F := by
  have hl := r.length
  have hn := enumD_length 0 ds
  refine ⟨fun i H hi e => ⟨vs, vs[i]'(by omega), sqL_up h e, by simp⟩, fun H e => ⟨vs, sqL_up h e, by omega⟩, fun i H v H' hi e y => .inr ?_⟩
  obtain ⟨T, x, e1, e2, e3, e4⟩ := y
  obtain ⟨d, hd, rd⟩ := r.get' (e4 vs (sqL_up h e))
  have g := enumD_get 0 ds i d hd
  rw [Nat.zero_add] at g
  exact ⟨T, _, _, e1, e2, e3, g, .cons (.int _) (.cons rd .nil)⟩
theorem itw_enumT (h : SqT K F a vs) (r : RpA K F vs ds) : ItW K (IteT K a) (enumD 0 ds) F := by
  have hl := r.length
  have hn := enumD_length 0 ds
  refine ⟨fun i H hi e => ⟨vs, vs[i]'(by omega), sqT_same e h, by simp⟩, fun H e => ⟨vs, sqT_same e h, by omega⟩, fun i H v H' hi e y => .inr ?_⟩
  obtain ⟨T, x, e1, e2, e3, e4⟩ := y
  obtain ⟨d, hd, rd⟩ := r.get' (e4 vs (sqT_same e h))
  have g := enumD_get 0 ds i d hd
  rw [Nat.zero_add] at g
  exact ⟨T, _, _, e1, e2, e3, g, .cons (.int _) (.cons rd .nil)⟩
theorem itw_zipL (h : SqL K F a vs) (r : RpA K F vs ds) (h2 : SqL K F b ws) (r2 : RpA K F ws es) : ItW K (Itz K a b) (zipD ds es) F := by
  have hl := r.length
  have hl2 := r2.length
  have hn := zipD_length ds es
  refine ⟨fun i H hi e => ⟨vs, ws, vs[i]'(by omega), ws[i]'(by omega), sqL_up h e, sqL_up h2 e, by simp, by simp⟩, fun H e => ⟨vs, ws, sqL_up h e, sqL_up h2 e, by omega⟩, fun i H v H' hi e y => .inr ?_⟩
  obtain ⟨T, x, z, e1, e2, e3, e4, e5⟩ := y
  obtain ⟨d, hd, rd⟩ := r.get' (e4 vs (sqL_up h e))
  obtain ⟨d2, hd2, rd2⟩ := r2.get' (e5 ws (sqL_up h2 e))
  exact ⟨T, _, _, e1, e2, e3, zipD_get ds es i d d2 hd hd2, .cons rd (.cons rd2 .nil)⟩
theorem itw_zipT (h : SqT K F a vs) (r : RpA K F vs ds) (h2 : SqT K F b ws) (r2 : RpA K F ws es) : ItW K (RZ.ItzT K a b) (zipD ds es) F := by
  have hl := r.length
  have hl2 := r2.length
  have hn := zipD_length ds es
  refine ⟨fun i H hi e => ⟨vs, ws, vs[i]'(by omega), ws[i]'(by omega), sqT_same e h, sqT_same e h2, by simp, by simp⟩, fun H e => ⟨vs, ws, sqT_same e h, sqT_same e h2, by omega⟩, fun i H v H' hi e y => .inr ?_⟩
  obtain ⟨T, x, z, e1, e2, e3, e4, e5⟩ := y
  obtain ⟨d, hd, rd⟩ := r.get' (e4 vs (sqT_same e h))
  obtain ⟨d2, hd2, rd2⟩ := r2.get' (e5 ws (sqT_same e h2))
  exact ⟨T, _, _, e1, e2, e3, zipD_get ds es i d d2 hd hd2, .cons rd (.cons rd2 .nil)⟩
end
section
variable {B : Bs} {W : WX} {X : Cx} {tg e e2 : Expr} {fa : Env → M DD} {fr : Env → M (List DD)} {pos : Pos}
theorem dj_seq (hK : B.K = X.K) (h : DE X B W e fa) : DJ X B W tg e (jSeq fa) := by
  obtain ⟨t, p, s⟩ := h.ex
  refine ⟨_, pi_seqX p, fun env S σ F H sa k R hr => s env S σ F H sa k _ ((Post.bnd hr).imp fun d S1 h1 v F1 H1 k1 g1 r1 => ?_)⟩
  rw [← hK]
  cases d with
  | lst xs =>
    obtain ⟨a, vs, rfl, q1, q2⟩ := r1.lst_inv
    exact ⟨a, rfl, .inl (.inl ⟨⟨vs, SqL.of (k1.fh _ _ q1)⟩, h1 _ F1 H1 k1 g1 (itw_list (SqL.of q1) q2)⟩)⟩
  | tup xs =>
    obtain ⟨a, vs, rfl, q1, q2⟩ := r1.tup_inv
    exact ⟨a, rfl, .inl (.inr ⟨⟨vs, sqT_same k1.fh q1⟩, h1 _ F1 H1 k1 g1 (itw_tup q1 q2)⟩)⟩
  | dct ks ws =>
    obtain ⟨a, o, xs, rfl, q1, q2, q3, q4⟩ := r1.dct_inv
    exact ⟨a, rfl, .inr ⟨o, xs, k1.fh _ _ q1, h1 _ F1 H1 k1 g1 (itw_dict q1 q2)⟩⟩
  | _ => exact h1.elim
theorem dj_rng1 {p : Pos} (hm : X.mg "range" = none) (ha : DA X B W [e] fr) (hg : Gl X "range" := by rfl) (hs : starEach [e] X.env = [(false, eval e X.env)] := by rfl) : DJ X B W tg (.Call (.Name "range" p) [e] [] pos) (jRng1 fr) := by
  obtain ⟨t, pp, s⟩ := ha.ex
  refine ⟨_, pi_range1 hg hm pp hs, fun env S σ F H sa k R hr => s env S σ F H sa k _ ((Post.bnd hr).imp fun ds S1 h1 vs F1 H1 k1 g1 r1 => ?_)⟩
  split at h1
  · obtain ⟨c, h1⟩ := post_if h1
    obtain ⟨v, rfl, r2⟩ := rpa1 r1
    cases r2.int_inv
    simp only [Bool.and_eq_true, decide_eq_true_eq] at c
    exact ⟨_, rfl, by omega, by omega, h1 _ F1 H1 k1 g1 itw_rng⟩
  · exact h1.elim
theorem dj_rng2 {p : Pos} (hm : X.mg "range" = none) (ha : DA X B W [e, e2] fr) (hg : Gl X "range" := by rfl) (hs : starEach [e, e2] X.env = [(false, eval e X.env), (false, eval e2 X.env)] := by rfl) (hs2 : starEach [e2] X.env = [(false, eval e2 X.env)] := by rfl) : DJ X B W tg (.Call (.Name "range" p) [e, e2] [] pos) (jRng2 fr) := by
  obtain ⟨t, pp, s⟩ := ha.ex
  refine ⟨_, pi_range2 hg hm pp hs hs2, fun env S σ F H sa k R hr => s env S σ F H sa k _ ((Post.bnd hr).imp fun ds S1 h1 vs F1 H1 k1 g1 r1 => ?_)⟩
  split at h1
  · obtain ⟨c, h1⟩ := post_if h1
    obtain ⟨v, w, rfl, r2, r3⟩ := rpa2 r1
    cases r2.int_inv
    cases r3.int_inv
    simp only [Bool.and_eq_true, decide_eq_true_eq] at c
    exact ⟨_, _, rfl, ⟨c.1.1.1, c.1.1.2, c.1.2, c.2⟩, h1 _ F1 H1 k1 g1 itw_rng⟩
  · exact h1.elim
theorem dj_enum {p tpos : Pos} {elts : List Expr} {kk : Nat} (hK : B.K = X.K) (hm : X.mg "enumerate" = none) (ha : DA X B W [e] fr) (hg : Gl X "enumerate" := by rfl) (hs : starEach [e] X.env = [(false, eval e X.env)] := by rfl) : DJ X B W (.Tuple elts kk tpos) (.Call (.Name "enumerate" p) [e] [] pos) (jEnum fr) := by
  obtain ⟨t, pp, s⟩ := ha.ex
  refine ⟨_, pi_enumA hg hm pp hs, fun env S σ F H sa k R hr => s env S σ F H sa k _ ((Post.bnd hr).imp fun ds S1 h1 vs F1 H1 k1 g1 r1 => ?_)⟩
  rw [← hK]
  split at h1
  · obtain ⟨v, rfl, r2⟩ := rpa1 r1
    obtain ⟨a, ws, rfl, q1, q2⟩ := r2.lst_inv
    exact ⟨a, ws, rfl, .inl ⟨SqL.of (k1.fh _ _ q1), h1 _ F1 H1 k1 g1 (itw_enumL (SqL.of q1) q2)⟩⟩
  · obtain ⟨v, rfl, r2⟩ := rpa1 r1
    obtain ⟨a, ws, rfl, q1, q2⟩ := r2.tup_inv
    exact ⟨a, ws, rfl, .inr ⟨sqT_same k1.fh q1, h1 _ F1 H1 k1 g1 (itw_enumT q1 q2)⟩⟩
  · exact h1.elim
theorem dj_zip {p tpos : Pos} {elts : List Expr} {kk : Nat} (hK : B.K = X.K) (hm : X.mg "zip" = none) (ha : DA X B W [e, e2] fr) (hg : Gl X "zip" := by rfl) (hs : starEach [e, e2] X.env = (false, eval e X.env) :: starEach [e2] X.env := by rfl) (hpl : (backTo pos (starEach [e2] X.env)).any (·.1) = false := by rfl) :
    DJ X B W (.Tuple elts kk tpos) (.Call (.Name "zip" p) [e, e2] [] pos) (jZip fr) := by
  obtain ⟨t, pp, s⟩ := ha.ex
  refine ⟨_, RZ.pi_zipA hg hm pp hs hpl, fun env S σ F H sa k R hr => s env S σ F H sa k _ ((Post.bnd hr).imp fun ds S1 h1 vs F1 H1 k1 g1 r1 => ?_)⟩
  rw [← hK]
  split at h1
  · obtain ⟨v, w, rfl, r2, r3⟩ := rpa2 r1
    obtain ⟨a, us, rfl, q1, q2⟩ := r2.lst_inv
    obtain ⟨b, ws, rfl, q3, q4⟩ := r3.lst_inv
    exact ⟨a, b, us, ws, rfl, .inl ⟨SqL.of (k1.fh _ _ q1), SqL.of (k1.fh _ _ q3), h1 _ F1 H1 k1 g1 (itw_zipL (SqL.of q1) q2 (SqL.of q3) q4)⟩⟩
  · obtain ⟨v, w, rfl, r2, r3⟩ := rpa2 r1
    obtain ⟨a, us, rfl, q1, q2⟩ := r2.tup_inv
    obtain ⟨b, ws, rfl, q3, q4⟩ := r3.tup_inv
    exact ⟨a, b, us, ws, rfl, .inr ⟨sqT_same k1.fh q1, sqT_same k1.fh q3, h1 _ F1 H1 k1 g1 (itw_zipT q1 q2 q3 q4)⟩⟩
  · exact h1.elim
end

/-! ### list comprehensions -/
/-- no error comes out -/
def ne {α : Type} (m : M α) : M α := fun S => match m S with
  | some (.ok x, S') => some (.ok x, S')
  | _ => none
@[simp] theorem ne_ret {α : Type} (x : α) : ne (ret x) = ret x := rfl
@[simp] theorem ne_stk {α : Type} : ne (stk : M α) = stk := rfl
theorem post_ne {α : Type} {good : α → Sr → Prop} {bad bad' : Ex → Sr → Prop} {m : M α} {S : Sr} (h : Post good bad (ne m S)) : Post good bad' (m S) := by
  unfold ne at h
  cases e : m S with
  | none => rw [e] at h; exact h.elim
  | some p =>
    obtain ⟨r, S1⟩ := p
    rw [e] at h
    cases r with
    | ok x => exact h
    | error x => exact h.elim
def lcD (fg : Env → DD → Option Env) (ft : Env → M Bool) (fe : Env → M DD) (env : Env) : List DD → M (List DD)
  | [] => ret []
  | d :: ds => match fg env d with
    | none => stk
    | some e => bnd (ne (ft e)) fun b => if b = true then bnd (ne (fe e)) fun x => bnd (lcD fg ft fe env ds) fun r => ret (x :: r) else lcD fg ft fe env ds
def eLc (vs : List Nat) (fi : Env → M (List DD)) (fg : Env → DD → Option Env) (ft : Env → M Bool) (fe : Env → M DD) : Env → M DD := fun env => bnd (fi env) fun items =>
  if szOk items.length = true then bnd (lcD fg ft fe (wipeE env vs) items) fun xs => ret (.lst xs) else stk
def tYesD : Env → M Bool := fun _ => ret true
structure DTs (X : Cx) (B : Bs) (W : WX) (ifs : List Expr) (f : Env → M Bool) : Prop where
  ex : ∃ t, PTs X ifs t ∧ SndT B W t f
theorem dts_nil {X : Cx} {B : Bs} {W : WX} : DTs X B W [] tYesD := ⟨_, pts_nil, fun env S σ F H sa k Q h => h F H k Gw.refl⟩
theorem dts_one {X : Cx} {B : Bs} {W : WX} {c : Expr} {f : Env → M Bool} (h : DT X B W c f) : DTs X B W [c] f := by
  obtain ⟨t, p, s⟩ := h.ex
  exact ⟨_, pts_one p, s⟩
/-- a list that stands alone is laid down as data -/
theorem Ok.lay {B : Bs} {env : Env} {S : Sr} {σ : L2.St} {F H : Hp} {sa : Option Addr} (k : Ok B env S σ F H sa) {a : Addr} {vs : List V} (ha : H a = some (.lst vs)) (hF : F a = none) (h0 : Fr B B.H0 a) (hs : sa ≠ some a) (hsl : Apart env σ a) :
    Same F (upd F a (.lst vs)) ∧ Ok B env S σ (upd F a (.lst vs)) H sa := by
  have sF : Same F (upd F a (.lst vs)) := fun b u q => by
    rw [upd_ne (ne_of_none q hF)]
    exact q
  refine ⟨sF, k.ff.trans sF, fun b u q => ?_, k.hh, fun b u h3 h1 h2 => ?_, k.tb, k.sa0, fun b q => ?_, k.len, fun j it q => ?_, k.dj, fun b ps hq => ?_⟩
  · by_cases hb : b = a
    · subst hb
      rw [upd_same] at q
      rw [ha, ← q]
    · rw [upd_ne hb] at q
      exact k.fh _ _ q
  · have ne : b ≠ a := fun z => h0 u (z ▸ h3) h1
    rw [upd_ne ne]
    exact k.nf b u h3 h1 h2
  · obtain ⟨h1, h2, h3⟩ := k.so b q
    have ne : b ≠ a := fun z => hs (z ▸ q)
    exact ⟨by rw [upd_ne ne]; exact h1, h2, h3⟩
  · obtain ⟨w, w1, w2⟩ := k.sl j it q
    refine ⟨w, w1, ?_⟩
    cases it with
    | d x => exact Rp.same sF x w2
    | l ys =>
      obtain ⟨b, us, c1, c2, c3, c4, c5, c6⟩ := w2
      have nb : b ≠ a := fun z => by
        subst c1
        rw [z] at w1
        exact hsl j _ q rfl w1
      exact ⟨b, us, c1, by rw [upd_ne nb]; exact c2, c3, c4, c5, RpA.same sF _ c6⟩
    | m ks ws =>
      obtain ⟨b, us, c1, c2, c3, c4, c5, c6⟩ := w2
      have nb : b ≠ a := fun z => by
        subst c1
        rw [z] at w1
        exact hsl j _ q rfl w1
      exact ⟨b, us, c1, by rw [upd_ne nb]; exact c2, c3, c4, c5, c6.same sF⟩
    | s => exact w2
    | sc ns =>
      obtain ⟨b, c1, c2⟩ := w2
      exact ⟨b, c1, Same.seq sF c2⟩
  · by_cases hb : b = a
    · rw [hb, upd_same] at hq
      cases hq
    · rw [upd_ne hb] at hq
      exact k.ft b ps hq
abbrev W0 : WX := fun _ _ _ _ => False
section
variable {B : Bs} {W : WX} {X : Cx}
/-- the reading of a comprehension -/
theorem snd_lc {wi : TI} {g : TG} {tt : TT} {te : TE} {vs js : List Nat} {fi : Env → M (List DD)} {fg : Env → DD → Option Env} {ft : Env → M Bool} {fe : Env → M DD} (hi : SndJ B W wi fi) (hg : SndG B g fg js) (ht : SndT B W0 tt ft) (he : SndE B W0 te fe) (hjs : ∀ j ∈ js, j ∈ vs) :
    SndE B W (tLc wi g tt te vs) (eLc vs fi fg ft fe) := by
  intro env S σ F H sa k Q hq
  refine hi env S σ F H sa k _ ((Post.bnd hq).imp fun items S1 h1 J F1 H1 k1 g1 w D hD => ?_)
  obtain ⟨hz, h1⟩ := post_if h1
  have hz := of_decide_eq_true hz
  obtain ⟨k2, g2, fD, b0D, saD⟩ := k1.newH hD (.lst [])
  have hD0 : Fr B H D := fun o q ko => by
    obtain ⟨o', e', _⟩ := g1.hh D o q ko
    rw [hD] at e'
    cases e'
  have hsl : Apart env σ D := k1.apart (Fr.of hD)
  -- the word of the loop
  refine ⟨fun i m H' => m = items.length - i ∧ i ≤ items.length ∧ ∃ S' F' acc ds, Ok B env S' σ F' H' sa ∧ Gw B sa F H F' H' ∧ Same F1 F' ∧ F' D = none ∧ H' D = some (.lst acc) ∧ RpA B.K F' acc ds ∧ acc.length ≤ i ∧
      Post (fun xs S2 => Good B env σ F H sa Q (.lst (ds ++ xs)) S2) (fun _ _ => False) (lcD fg ft fe (wipeE env vs) (items.drop i) S'), ⟨_, rfl, Nat.zero_le _, S1, F1, [], [], k2, g1.trans g2, Same.refl _, fD, upd_same, .nil, Nat.le_refl _, ?_⟩, ?_⟩
  · -- no error comes out of it
    rw [List.drop_zero]
    have h2 := Post.bnd h1
    have key : ∀ (l : List DD) (S : Sr) (x : Ex) (S' : Sr), lcD fg ft fe (wipeE env vs) l S ≠ some (.error x, S') := by
      intro l
      induction l with
      | nil => intro S x S' e; cases e
      | cons d l ih =>
        intro S x S' e
        unfold lcD at e
        cases q : fg (wipeE env vs) d with
        | none => rw [q] at e; cases e
        | some en =>
          rw [q] at e
          simp only at e
          unfold bnd at e
          cases q1 : ne (ft en) S with
          | none => rw [q1] at e; cases e
          | some p =>
            obtain ⟨r, S1⟩ := p
            rw [q1] at e
            cases r with
            | error y =>
              unfold ne at q1
              cases q2 : ft en S with
              | none => rw [q2] at q1; cases q1
              | some p2 =>
                obtain ⟨r2, S2⟩ := p2
                rw [q2] at q1
                cases r2 <;> cases q1
            | ok b =>
              simp only at e
              cases b with
              | false =>
                rw [if_neg (by decide)] at e
                exact ih _ _ _ e
              | true =>
                rw [if_pos rfl] at e
                cases q3 : ne (fe en) S1 with
                | none => rw [q3] at e; cases e
                | some p3 =>
                  obtain ⟨r3, S3⟩ := p3
                  rw [q3] at e
                  cases r3 with
                  | error y =>
                    unfold ne at q3
                    cases q4 : fe en S1 with
                    | none => rw [q4] at q3; cases q3
                    | some p2 =>
                      obtain ⟨r2, S2⟩ := p2
                      rw [q4] at q3
                      cases r2 <;> cases q3
                  | ok y =>
                    simp only at e
                    cases q5 : lcD fg ft fe (wipeE env vs) l S3 with
                    | none => rw [q5] at e; cases e
                    | some p5 =>
                      obtain ⟨r5, S5⟩ := p5
                      rw [q5] at e
                      cases r5 with
                      | error z => exact ih _ _ _ q5
                      | ok z => cases e
    cases q : lcD fg ft fe (wipeE env vs) items S1 with
    | none => rw [q] at h2; exact h2.elim
    | some p =>
      obtain ⟨r, S2⟩ := p
      rw [q] at h2
      cases r with
      | error x => exact absurd q (key _ _ _ _)
      | ok xs => exact h2
  · rintro i m H2 ⟨rfl, hin, S2, F2, acc, ds, k3, g3, s13, fD2, hD2, rD2, hal, hp⟩
    have sJ : Same F1 H2 := s13.trans k3.fh
    by_cases hlt : i < items.length
    · refine .inr ⟨w.goes i H2 hlt sJ, fun H' => items.length - (i + 1) = items.length - (i + 1) ∧ i + 1 ≤ items.length ∧ ∃ S' F' acc ds, Ok B env S' σ F' H' sa ∧ Gw B sa F H F' H' ∧ Same F1 F' ∧ F' D = none ∧ H' D = some (.lst acc) ∧ RpA B.K F' acc ds ∧ acc.length ≤ i + 1 ∧
          Post (fun xs S2 => Good B env σ F H sa Q (.lst (ds ++ xs)) S2) (fun _ _ => False) (lcD fg ft fe (wipeE env vs) (items.drop (i + 1)) S'), fun H' h => ⟨_, by omega, h⟩, fun x H' hy => ?_⟩
      have hdrop : items.drop i = items[i] :: items.drop (i + 1) := List.drop_eq_getElem_cons hlt
      rw [hdrop] at hp
      unfold lcD at hp
      have hdD : ∀ {F' H' : Hp}, Gw B sa F2 H2 F' H' → F' D = none ∧ H' D = some (.lst acc) := fun {F' H'} gw =>
        ⟨gw.nf D _ hD2 .lst fD2, gw.kp D _ hD2 saD .lst⟩
      -- the item, laid down
      have item : ∃ F' , Ok B env S2 σ F' H' sa ∧ Gw B sa F2 H2 F' H' ∧ Rp B.K F' x (items[i]) := by
        rcases w.yields i H2 x H' hlt sJ hy with ⟨rfl, d, hd, rd⟩ | ⟨T, us, es, rfl, hT, rfl, hd, rd⟩
        · refine ⟨F2, k3, Gw.refl, ?_⟩
          have e : items[i] = d := by
            rw [List.getElem?_eq_getElem hlt] at hd
            exact Option.some.inj hd
          rw [e]
          exact Rp.same s13 d rd
        · have e : items[i] = .tup es := by
            rw [List.getElem?_eq_getElem hlt] at hd
            exact Option.some.inj hd
          refine ⟨_, k3.new hT (.tup us), k3.gw hT (.tup us), ?_⟩
          rw [e]
          exact .tup (SqT.of upd_same) (RpA.same (s13.trans (k3.gw hT (.tup us)).ff) es rd)
      obtain ⟨F3, k4, g4, r4⟩ := item
      cases qg : fg (wipeE env vs) items[i] with
      | none => rw [qg] at hp; exact hp.elim
      | some en =>
        rw [qg] at hp
        simp only at hp
        refine hg (wipeE env vs) S2 (L2.wipe σ vs) F3 H' sa x items[i] en (k4.wipe vs) r4 qg _ fun σ2 k5 l5 u5 => ⟨?_, ?_⟩
        · have e1 : L2.wipe σ2 vs = L2.wipe (L2.wipe σ vs) vs := wipe_eq vs l5 fun j hj => u5 j fun z => hj (hjs j z)
          have e2 : L2.wipe (L2.wipe σ vs) vs = L2.wipe σ vs := wipe_eq vs (wipe_length σ vs) fun j hj => wipe_get σ vs j hj
          rw [e1, e2]
        · refine ht en S2 σ2 F3 H' sa k5 _ ((post_ne (Post.bnd hp)).imp fun b S3 h3 F4 H4 k6 g6 => ?_)
          have k6' := k4.carry g6 k6
          have g36 := g4.trans g6
          cases b with
          | false =>
            rw [if_neg Bool.false_ne_true] at h3
            refine iteF ⟨rfl, hlt, S3, F4, acc, ds, k6', g3.trans g36, s13.trans g36.ff, (hdD g36).1, (hdD g36).2, RpA.same g36.ff ds rD2, by omega, h3⟩
          | true =>
            rw [if_pos rfl] at h3
            refine iteT (he en S3 σ2 F4 H4 sa k6 _ ((post_ne (Post.bnd h3)).imp fun d S4 h4 v F5 H5 k7 g7 r7 => ?_))
            have g37 := g36.trans g7
            have k7' := k6'.carry g7 k7
            refine ⟨acc, (hdD g37).2, Nat.lt_of_lt_of_le (Nat.lt_of_le_of_lt hal hlt) (by rw [sizeLine_eq]; omega), rfl, hlt, S4, F5, acc ++ [v], ds ++ [d], ?_, ?_, s13.trans g37.ff, (hdD g37).1, upd_same, (RpA.same g37.ff ds rD2).append (.cons r7 .nil), by simp; omega, ?_⟩
            · exact k7'.mut (hdD g37).2 (.inl ⟨_, rfl⟩) (hdD g37).1 b0D saD hsl
            · have gg := g3.trans g37
              refine ⟨gg.ff, fun b o q h1 h2 => ?_, gg.nf, fun b o q h => ?_⟩
              · rw [upd_ne (fun z : b = D => hD0 o (z ▸ q) h2)]
                exact gg.kp b o q h1 h2
              · rw [upd_ne (fun z : b = D => hD0 o (z ▸ q) h)]
                exact gg.hh b o q h
            · exact (Post.bnd h4).imp fun xs S5 h5 => by rw [List.append_assoc]; exact h5
    · have e : i = items.length := by omega
      subst e
      rw [List.drop_length] at hp
      refine .inl ⟨w.stops H2 sJ, ?_⟩
      have hp : Good B env σ F H sa Q (.lst (ds ++ [])) S2 := hp
      rw [List.append_nil] at hp
      obtain ⟨sF, kz⟩ := k3.lay hD2 fD2 b0D saD hsl
      refine hp (.ref D) _ H2 kz ⟨g3.ff.trans sF, g3.kp, fun b o q h1 h2 => ?_, g3.hh⟩ (.lst upd_same (RpA.same sF ds rD2))
      rw [upd_ne (fun z : b = D => hD0 o (z ▸ q) h1)]
      exact g3.nf b o q h1 h2
end
end AU
namespace AU
open PySem PySem.Spec PyProof.Rows L2

/-! ### one reading for all contexts -/
def tOf (B : Bs) (W : WX) (f : Env → M DD) : TE := fun σ H Q => ∃ env S F sa, Ok B env S σ F H sa ∧ Post (Good B env σ F H sa Q) (Bad B W env σ F H sa) (f env S)
def tOfT (B : Bs) (W : WX) (f : Env → M Bool) : TT := fun σ H Q => ∃ env S F sa, Ok B env S σ F H sa ∧ Post (GoodB B env σ F H sa Q) (Bad B W env σ F H sa) (f env S)
def gOf (B : Bs) (fg : Env → DD → Option Env) (js : List Nat) : TG := fun v σ H Q => ∃ env S F sa d env', Ok B env S σ F H sa ∧ Rp B.K F v d ∧ fg env d = some env' ∧
  (∀ σ', Ok B env' S σ' F H sa → σ'.length = σ.length → (∀ i, i ∉ js → σ'[i]? = σ[i]?) → Q σ' H)
section
variable {B : Bs} {W : WX} {X : Cx} {e tg iter : Expr} {f : Env → M DD} {ft : Env → M Bool} {fi : Env → M (List DD)} {fg : Env → DD → Option Env} {js : List Nat} {pos : Pos}
theorem DE.pe (h : DE X B W e f) : PE X e (tOf B W f) := by
  obtain ⟨t, p, s⟩ := h.ex
  exact ⟨fun pins st σ H Q I ⟨env, S, F, sa, k, q⟩ => p.run pins st σ H Q I (s env S σ F H sa k Q q)⟩
theorem sndOf : SndE B W (tOf B W f) f := fun env S σ F H sa k Q h => ⟨env, S, F, sa, k, h⟩
theorem DT.pt (h : DT X B W e ft) : PT X e (tOfT B W ft) := by
  obtain ⟨t, p, s⟩ := h.ex
  exact ⟨fun pins st σ H Q I ⟨env, S, F, sa, k, q⟩ => p.run pins st σ H Q I (s env S σ F H sa k Q q)⟩
theorem DTs.pts {ifs : List Expr} (h : DTs X B W ifs ft) : PTs X ifs (tOfT B W ft) := by
  obtain ⟨t, p, s⟩ := h.ex
  exact ⟨fun pins st σ H Q I ⟨env, S, F, sa, k, q⟩ => p.run pins st σ H Q I (s env S σ F H sa k Q q)⟩
theorem sndOfT : SndT B W (tOfT B W ft) ft := fun env S σ F H sa k Q h => ⟨env, S, F, sa, k, h⟩
theorem DG.pg (h : DG X B tg fg js) : PG X tg (gOf B fg js) := by
  obtain ⟨t, p, s⟩ := h.ex
  exact ⟨fun pins st σ H v u Q I r ⟨env, S, F, sa, d, env', k, rd, e, q⟩ => p.run pins st σ H v u Q I r (s env S σ F H sa v d env' k rd e Q q)⟩
theorem sndOfG : SndG B (gOf B fg js) fg js := fun env S σ F H sa v d env' k r h Q q => ⟨env, S, F, sa, d, env', k, r, h, q⟩
theorem de_lc {elt : Expr} {ifs : List Expr} {scope : Scope} {own : List (Str × Nat)} {fe : Env → M DD} (hc : X.calm = true) (hN : X.N.Nodup) (hi : DJ X B W tg iter fi) (ok : BlkOk X.N X.env.scope scope own)
    (hg : ∀ (s : Shared) (H : Hp) (C : Addr) (cl : List (Str × Addr)) (fp : List Addr), DG (X.blk s H scope (compEnvC scope cl C X.env) fp) B tg fg js)
    (ht : ∀ (s : Shared) (H : Hp) (C : Addr) (cl : List (Str × Addr)) (fp : List Addr), DTs (X.blk s H scope (compEnvC scope cl C X.env) fp) B W0 ifs ft)
    (he : ∀ (s : Shared) (H : Hp) (C : Addr) (cl : List (Str × Addr)) (fp : List Addr), DE (X.blk s H scope (compEnvC scope cl C X.env) fp) B W0 elt fe)
    (hjs : ∀ j ∈ js, j ∈ own.map (·.2) := by decide) (hs : ∀ x, foldedSetIterable iter X.env x = pure x := by intro _; rfl) :
    DE X B W (.ListComp elt [⟨tg, iter, ifs, 0⟩] scope pos) (eLc (own.map (·.2)) fi fg ft fe) := by
  obtain ⟨wi, pi, si⟩ := hi.ex
  exact ⟨_, pe_lc hc hN pi ok (fun s H C cl fp => (hg s H C cl fp).pg) (fun s H C cl fp => (ht s H C cl fp).pts) (fun s H C cl fp => (he s H C cl fp).pe) hs,
    snd_lc si sndOfG sndOfT sndOf hjs⟩
end

/-! ### statements -/
inductive Out where
  | nx (e : Env) (S : Sr) | rt (d : DD) (S : Sr) | bk (e : Env) (S : Sr) | ct (e : Env) (S : Sr) | ex (x : Ex) (e : Env) (S : Sr) | rn (ds : List DD) (S : Sr)
abbrev SF := Env → Sr → Option Out
def PostS (B : Bs) (W : WX) (D : Ends) (F : Hp) : Option Out → Prop
  | none => False
  | some (.nx e S) => ∀ σ F' H' sa, Ok B e S σ F' H' sa → Same F F' → D.nx σ H'
  | some (.bk e S) => ∀ σ F' H' sa, Ok B e S σ F' H' sa → Same F F' → D.bk σ H'
  | some (.ct e S) => ∀ σ F' H' sa, Ok B e S σ F' H' sa → Same F F' → D.ct σ H'
  | some (.rt d S) => ∀ e σ v F' H' sa, Ok B e S σ F' H' sa → Same F F' → Rp B.K F' v d → D.rt v H'
  | some (.ex x e S) => ∀ σ F' H' sa, Ok B e S σ F' H' sa → Same F F' → ExP B W x σ F' H'
  | some (.rn ds S) => ∀ e σ p ws F' H' sa, Ok B e S σ F' H' sa → Same F F' → F' p = none → Fr B B.H0 p → sa ≠ some p → H' p = some (.lst ws) → RpA B.K F' ws ds → Apart e σ p → D.rt (.ref p) H'
theorem PostS.of {B : Bs} {W : WX} {D : Ends} {F F1 : Hp} (e : Same F F1) : ∀ {o : Option Out}, PostS B W D F o → PostS B W D F1 o
  | none, h => h
  | some (.nx _ _), h => fun σ F' H' sa k s => h σ F' H' sa k (e.trans s)
  | some (.bk _ _), h => fun σ F' H' sa k s => h σ F' H' sa k (e.trans s)
  | some (.ct _ _), h => fun σ F' H' sa k s => h σ F' H' sa k (e.trans s)
  | some (.rt _ _), h => fun en σ v F' H' sa k s => h en σ v F' H' sa k (e.trans s)
  | some (.ex _ _ _), h => fun σ F' H' sa k s => h σ F' H' sa k (e.trans s)
  | some (.rn _ _), h => fun en σ p ws F' H' sa k s => h en σ p ws F' H' sa k (e.trans s)
def SndS (B : Bs) (W : WX) (ts : TS) (f : SF) : Prop := ∀ env S σ F H sa, Ok B env S σ F H sa → ∀ D : Ends, PostS B W D F (f env S) → ts D σ H
structure DS (X : Cx) (B : Bs) (W : WX) (s : Stmt) (f : SF) : Prop where
  ex : ∃ t, PS X s t ∧ SndS B W t f
structure DSs (X : Cx) (B : Bs) (W : WX) (s : List Stmt) (f : SF) : Prop where
  ex : ∃ t, PSs X s t ∧ SndS B W t f
/-- a reckoning ahead of a statement's end -/
def thenS {α : Type} (m : Env → M α) (k : α → Env → Sr → Option Out) : SF := fun env S => match m env S with
  | none => none
  | some (.ok x, S') => k x env S'
  | some (.error e, S') => some (.ex e env S')
theorem post_then {α : Type} {B : Bs} {W : WX} {D : Ends} {F H : Hp} {env : Env} {S : Sr} {σ : L2.St} {sa : Option Addr} {m : Env → M α} {k : α → Env → Sr → Option Out} (hk : Ok B env S σ F H sa) (h : PostS B W D F (thenS m k env S)) :
    Post (fun x S' => PostS B W D F (k x env S')) (fun e S' => ∀ σ F' H' sa, Ok B env S' σ F' H' sa → Same F F' → ExP B W e σ F' H') (m env S) := by
  unfold thenS at h
  cases q : m env S with
  | none => rw [q] at h; exact h.elim
  | some p =>
    obtain ⟨r, S'⟩ := p
    rw [q] at h
    cases r with
    | ok x => exact h
    | error e => exact h
end AU
namespace AU
open PySem PySem.Spec PyProof.Rows L2

theorem post_exp {α : Type} {B : Bs} {W : WX} {D : Ends} {F H : Hp} {env : Env} {S : Sr} {σ : L2.St} {sa : Option Addr} {m : Env → M α} {k : α → Env → Sr → Option Out} (hk : Ok B env S σ F H sa) (h : PostS B W D F (thenS m k env S)) :
    Post (fun x S' => PostS B W D F (k x env S')) (Bad B W env σ F H sa) (m env S) :=
  (post_then hk h).mono (fun _ _ z => z) fun e S' z F' H' k' g => z σ F' H' sa k' g.ff
def sNil : SF := fun env S => some (.nx env S)
def sSeq (a b : SF) : SF := fun env S => match a env S with
  | some (.nx e S') => b e S'
  | o => o
def sExpr (f : Env → M DD) : SF := thenS f fun _ env S => some (.nx env S)
def sAsg (f : Env → M DD) (fg : Env → DD → Option Env) : SF := thenS f fun d env S => (fg env d).map fun e => .nx e S
def sRet (f : Env → M DD) : SF := thenS f fun d _ S => some (.rt d S)
def sRetN : SF := fun _ S => some (.rt .non S)
def sIf (t : Env → M Bool) (a b : SF) : SF := thenS t fun c env S => if c = true then a env S else b env S
def sBrk : SF := fun env S => some (.bk env S)
def sCont : SF := fun env S => some (.ct env S)
def sRaise (kx : Nat) : SF := fun env S => some (.ex ⟨kx, none⟩ env S)
def forD (fg : Env → DD → Option Env) (fb : SF) : List DD → SF
  | [] => fun env S => some (.nx env S)
  | d :: ds => fun env S => match fg env d with
    | none => none
    | some e => match fb e S with
      | some (.nx e2 S2) => forD fg fb ds e2 S2
      | some (.ct e2 S2) => forD fg fb ds e2 S2
      | some (.bk e2 S2) => some (.nx e2 S2)
      | o => o
def sFor (fi : Env → M (List DD)) (fg : Env → DD → Option Env) (fb : SF) : SF := thenS fi fun items env S => forD fg fb items env S
def whileD (t : Env → M Bool) (fb : SF) : Nat → SF
  | 0 => fun _ _ => none
  | n + 1 => thenS t fun c env S => if c = true then (match fb env S with
      | some (.nx e2 S2) => whileD t fb n e2 S2
      | some (.ct e2 S2) => whileD t fb n e2 S2
      | some (.bk e2 S2) => some (.nx e2 S2)
      | o => o) else some (.nx env S)
def sWhile (t : Env → M Bool) (fb : SF) (fuel : Env → Sr → Nat) : SF := fun env S => whileD t fb (fuel env S) env S
/-- an error class of the program, made with a text -/
structure ExC (K : PySem.W.Frag) (mg : Str → Option Value) (cls : Nat → Value) (x : Str) (kx : Nat) : Prop where
  ex : ∃ C, cls kx = .ref C ∧ PySem.W.excIn K C [.type "ValueError", .type "Exception", .type "BaseException", .type "object"] "ValueError.__new__" = true ∧ mg x = some (.ref C) ∧ PySem.W.keepIn K (.ref C) = true ∧
    PySem.W.subIn K (.ref C) (.type "BaseException") = some true ∧ PySem.W.typeIn K (.ref C) = some (.type "type")
section
variable {B : Bs} {W : WX} {X : Cx} {e tg iter c : Expr} {st : Stmt} {rest body orelse : List Stmt} {f : Env → M DD} {ft : Env → M Bool} {fi : Env → M (List DD)} {fg : Env → DD → Option Env} {js : List Nat} {fa fb : SF} {pos : Pos}
theorem dss_nil : DSs X B W [] sNil := ⟨_, pss_nil, fun env S σ F H sa k D h => h σ F H sa k (Same.refl F)⟩
theorem dss_cons (h1 : DS X B W st fa) (h2 : DSs X B W rest fb) : DSs X B W (st :: rest) (sSeq fa fb) := by
  obtain ⟨t, p, s⟩ := h1.ex
  obtain ⟨t2, p2, s2⟩ := h2.ex
  refine ⟨_, pss_cons p p2, fun env S σ F H sa k D h => s env S σ F H sa k _ ?_⟩
  unfold sSeq at h
  cases q : fa env S with
  | none => rw [q] at h; exact h.elim
  | some o =>
    rw [q] at h
    cases o with
    | nx e2 S2 => exact fun σ2 F2 H2 sa2 k2 g2 => s2 e2 S2 σ2 F2 H2 sa2 k2 D (h.of g2)
    | rt d S2 => exact h
    | bk e2 S2 => exact h
    | ct e2 S2 => exact h
    | ex x e2 S2 => exact h
    | rn ds S2 => exact h
theorem dss_one (h1 : DS X B W st fa) : DSs X B W [st] fa := by
  obtain ⟨t, p, s⟩ := h1.ex
  exact ⟨_, pss_one p, s⟩
theorem ds_expr (he : DE X B W e f) (hs : swapsWith e none pos.line X.env = pure false := by rfl) : DS X B W (.Expr e pos) (sExpr f) := by
  obtain ⟨t, p, s⟩ := he.ex
  exact ⟨_, ps_expr p hs, fun env S σ F H sa k D h => s env S σ F H sa k _ ((post_exp k h).imp fun d S1 h1 v F1 H1 k1 g1 r1 => h1 σ F1 H1 sa k1 g1.ff)⟩
theorem ds_asg (he : DE X B W e f) (hg : DG X B tg fg js) (hs : swapsWithSole [tg] e pos.line X.env = pure false := by rfl) (hw : swappedStores [tg] e X.env = pure none := by rfl)
    (h1 : (assignEach [tg] X.env).map (·.2) = [assign tg X.env] := by rfl) : DS X B W (.Assign [tg] e pos) (sAsg f fg) := by
  obtain ⟨t, p, s⟩ := he.ex
  obtain ⟨g, pg, sg⟩ := hg.ex
  refine ⟨_, ps_asg p pg hs hw h1, fun env S σ F H sa k D h => s env S σ F H sa k _ ((post_exp k h).imp fun d S1 h1 v F1 H1 k1 g1 r1 => ?_)⟩
  cases q : fg env d with
  | none => rw [q] at h1; exact h1.elim
  | some e2 =>
    rw [q] at h1
    exact sg env S1 σ F1 H1 sa v d e2 k1 r1 q _ fun σ2 k2 _ _ => h1 σ2 F1 H1 sa k2 g1.ff
theorem ds_ret (he : DE X B W e f) : DS X B W (.Return (some e) pos) (sRet f) := by
  obtain ⟨t, p, s⟩ := he.ex
  exact ⟨_, ps_ret p, fun env S σ F H sa k D h => s env S σ F H sa k _ ((post_exp k h).imp fun d S1 h1 v F1 H1 k1 g1 r1 => h1 env σ v F1 H1 sa k1 g1.ff r1)⟩
theorem ds_retN : DS X B W (.Return none pos) sRetN := ⟨_, ps_retN, fun env S σ F H sa k D h => h env σ .non F H sa k (Same.refl F) .non⟩
theorem ds_if (hc : DT X B W c ft) (ha : DSs X B W body fa) (hb : DSs X B W orelse fb) : DS X B W (.If c body orelse pos) (sIf ft fa fb) := by
  obtain ⟨t, p, s⟩ := hc.ex
  obtain ⟨t1, p1, s1⟩ := ha.ex
  obtain ⟨t2, p2, s2⟩ := hb.ex
  refine ⟨_, ps_if p p1 p2, fun env S σ F H sa k D h => s env S σ F H sa k _ ((post_exp k h).imp fun c S1 h1 F1 H1 k1 g1 => ?_)⟩
  cases c with
  | true => exact iteT (s1 env S1 σ F1 H1 sa k1 D (PostS.of g1.ff h1))
  | false => exact iteF (s2 env S1 σ F1 H1 sa k1 D (PostS.of g1.ff h1))
theorem ds_pass : DS X B W (.Pass pos) sNil := ⟨_, ps_pass, fun env S σ F H sa k D h => h σ F H sa k (Same.refl F)⟩
theorem ds_brk : DS X B W (.Break pos) sBrk := ⟨_, ps_break, fun env S σ F H sa k D h => h σ F H sa k (Same.refl F)⟩
theorem ds_cont : DS X B W (.Continue pos) sCont := ⟨_, ps_continue, fun env S σ F H sa k D h => h σ F H sa k (Same.refl F)⟩
theorem ds_raise {x m : Str} {j kx : Nat} {p p2 p3 : Pos} (hc : X.calm = true) (tk : Takes X W) (E : ExC X.K X.mg B.cls x kx) (hg : Gl X x := by rfl) (hdb : (x == ("__debug__" : Str)) = false := by decide) :
    DS X B W (.Raise (some (.Call (.Name x p) [.Constant (.str m) j p2] [] p3)) none pos) (sRaise kx) := by
  obtain ⟨C, e1, e2, e3, e4, e5, e6⟩ := E.ex
  refine ⟨_, ps_raise hc tk (pmk_own PySem.F.excBase_ValueError e2 e3 e4 (raises_own e5 e6) hg hdb), fun env S σ F H sa k D h => ?_⟩
  have z := h σ F H sa k (Same.refl F)
  show W (.ref C) none σ H
  rw [← e1]
  exact z
/-- a logical step: a list, a dict of its own is data from now on -/
def sFrz (i : Nat) (s : SF) : SF := fun env S => match env[i]? with
  | some (some (.l xs)) => s (env.set i (some (.d (.lst xs)))) S
  | some (some (.m ks vs)) => s (env.set i (some (.d (.dct ks vs)))) S
  | some (some (.d (.lst xs))) => s env S
  | some (some (.d (.dct ks vs))) => s env S
  | _ => none
theorem sndS_frz {t : TS} (i : Nat) (s : SndS B W t fa) : SndS B W (fun D σ H => t D σ H ∨ tHold t D σ H) (sFrz i fa) := fun env S σ F H sa k D h => by
  unfold sFrz at h
  cases q : env[i]? with
  | none => rw [q] at h; exact h.elim
  | some o =>
    cases o with
    | none => rw [q] at h; exact h.elim
    | some it =>
      cases it with
      | l xs =>
        rw [q] at h
        obtain ⟨F1, sF, k1⟩ := k.freeze q
        exact .inl (s _ S σ F1 H sa k1 D (PostS.of sF h))
      | m ks vs =>
        rw [q] at h
        obtain ⟨a, xs, ha, kk⟩ := k.freezeM q
        refine .inr ⟨a, dxO a xs, ha, True.intro, fun o => ?_⟩
        obtain ⟨F1, sF, k1⟩ := kk o
        exact s _ S σ F1 _ sa k1 D (PostS.of sF h)
      | d x =>
        rw [q] at h
        cases x with
        | lst xs => exact .inl (s env S σ F H sa k D h)
        | dct ks vs => exact .inl (s env S σ F H sa k D h)
        | _ => exact h.elim
      | s => rw [q] at h; exact h.elim
      | sc ns => rw [q] at h; exact h.elim
theorem ds_frz (i : Nat) (h : DS X B W st fa) : DS X B W st (sFrz i fa) := by
  obtain ⟨t, p, s⟩ := h.ex
  exact ⟨_, ps_or p (ps_hold p), sndS_frz i s⟩
theorem ds_for (hK : B.K = X.K) (hp : PassesOwn (model X.prog X.w) X.A X.env X.xe) (hc : X.calm = true) (hi : DJ X B W tg iter fi) (hg : DG X B tg fg js) (hb : DSs X B W body fb) (hs : ∀ x, foldedSetIterable iter X.env x = pure x := by intro _; rfl) :
    DS X B W (.For tg iter body [] pos) (sFor fi fg fb) := by
  obtain ⟨wi, pi, si⟩ := hi.ex
  obtain ⟨g, pg, sg⟩ := hg.ex
  obtain ⟨tb, pb, sb⟩ := hb.ex
  refine ⟨_, ps_for hp hc pi pg pb hs, fun env S σ F H sa k D h => ?_⟩
  refine si env S σ F H sa k _ ((post_exp k h).imp fun items S1 h1 J F1 H1 k1 g1 w => ?_)
  refine ⟨fun i m σ' H' => m = items.length - i ∧ i ≤ items.length ∧ ∃ e S' F' sa', Ok B e S' σ' F' H' sa' ∧ Same F1 F' ∧ PostS B W D F' (forD fg fb (items.drop i) e S'),
    ⟨_, rfl, Nat.zero_le _, env, S1, F1, sa, k1, Same.refl _, PostS.of g1.ff (by rw [List.drop_zero]; exact h1)⟩, ?_⟩
  rintro i m σ2 H2 ⟨rfl, hin, e2, S2, F2, sa2, k3, s13, hp⟩
  have sJ : Same F1 H2 := s13.trans k3.fh
  by_cases hlt : i < items.length
  · refine .inr ⟨w.goes i H2 hlt sJ, fun σ' H' => i + 1 ≤ items.length ∧ ∃ e S' F' sa', Ok B e S' σ' F' H' sa' ∧ Same F1 F' ∧ PostS B W D F' (forD fg fb (items.drop (i + 1)) e S'),
      fun σ' H' z => ⟨items.length - (i + 1), by omega, rfl, z⟩, fun x H' hy => ?_⟩
    have hdrop : items.drop i = items[i] :: items.drop (i + 1) := List.drop_eq_getElem_cons hlt
    rw [hdrop] at hp
    unfold forD at hp
    have item : ∃ F', Ok B e2 S2 σ2 F' H' sa2 ∧ Same F2 F' ∧ Rp B.K F' x (items[i]) := by
      rcases w.yields i H2 x H' hlt sJ hy with ⟨rfl, d, hd, rd⟩ | ⟨T, us, es, rfl, hT, rfl, hd, rd⟩
      · refine ⟨F2, k3, Same.refl _, ?_⟩
        have e : items[i] = d := by
          rw [List.getElem?_eq_getElem hlt] at hd
          exact Option.some.inj hd
        rw [e]
        exact Rp.same s13 d rd
      · have e : items[i] = .tup es := by
          rw [List.getElem?_eq_getElem hlt] at hd
          exact Option.some.inj hd
        refine ⟨_, k3.new hT (.tup us), (k3.gw hT (.tup us)).ff, ?_⟩
        rw [e]
        exact .tup (SqT.of upd_same) (RpA.same (s13.trans (k3.gw hT (.tup us)).ff) es rd)
    obtain ⟨F3, k4, s4, r4⟩ := item
    cases qg : fg e2 items[i] with
    | none => rw [qg] at hp; exact hp.elim
    | some en =>
      rw [qg] at hp
      simp only at hp
      refine sg e2 S2 σ2 F3 H' sa2 x items[i] en k4 r4 qg _ fun σ3 k5 l5 u5 => sb en S2 σ3 F3 H' sa2 k5 _ ?_
      cases qb : fb en S2 with
      | none => rw [qb] at hp; exact hp.elim
      | some o =>
        rw [qb] at hp
        cases o with
        | nx e6 S6 => exact fun σ6 F6 H6 sa6 k6 s6 => ⟨hlt, e6, S6, F6, sa6, k6, (s13.trans s4).trans s6, PostS.of (s4.trans s6) hp⟩
        | ct e6 S6 => exact fun σ6 F6 H6 sa6 k6 s6 => ⟨hlt, e6, S6, F6, sa6, k6, (s13.trans s4).trans s6, PostS.of (s4.trans s6) hp⟩
        | bk e6 S6 => exact fun σ6 F6 H6 sa6 k6 s6 => hp σ6 F6 H6 sa6 k6 (s4.trans s6)
        | rt d S6 => exact fun e6 σ6 v F6 H6 sa6 k6 s6 r6 => hp e6 σ6 v F6 H6 sa6 k6 (s4.trans s6) r6
        | ex x e6 S6 => exact fun σ6 F6 H6 sa6 k6 s6 => hp σ6 F6 H6 sa6 k6 (s4.trans s6)
        | rn ds S6 => exact fun e6 σ6 p ws F6 H6 sa6 k6 s6 => hp e6 σ6 p ws F6 H6 sa6 k6 (s4.trans s6)
  · have e : i = items.length := by omega
    subst e
    rw [List.drop_length] at hp
    exact .inl ⟨w.stops H2 sJ, hp σ2 F2 H2 sa2 k3 (Same.refl _)⟩
theorem ds_while (hp : PassesOwn (model X.prog X.w) X.A X.env X.xe) (hc : DT X B W c ft) (hb : DSs X B W body fb) (fuel : Env → Sr → Nat) : DS X B W (.While c body [] pos) (sWhile ft fb fuel) := by
  obtain ⟨t, p, s⟩ := hc.ex
  obtain ⟨tb, pb, sb⟩ := hb.ex
  refine ⟨_, ps_while hp p pb, fun env S σ F H sa k D h => ?_⟩
  refine ⟨fun m σ' H' => ∃ e S' F' sa', Ok B e S' σ' F' H' sa' ∧ PostS B W D F' (whileD ft fb m e S'), ⟨fuel env S, env, S, F, sa, k, h⟩, ?_⟩
  rintro m σ2 H2 ⟨e2, S2, F2, sa2, k2, hp⟩
  cases m with
  | zero => exact hp.elim
  | succ n =>
    unfold whileD at hp
    refine s e2 S2 σ2 F2 H2 sa2 k2 _ ((post_exp k2 hp).imp fun b S3 h3 F3 H3 k3 g3 => ?_)
    cases b with
    | false => exact iteF (h3 σ2 F3 H3 sa2 k3 g3.ff)
    | true =>
      rw [if_pos rfl] at h3
      refine iteT ⟨fun σ' H' => ∃ e S' F' sa', Ok B e S' σ' F' H' sa' ∧ PostS B W D F' (whileD ft fb n e S'), fun σ' H' z => ⟨n, Nat.lt_succ_self n, z⟩, sb e2 S3 σ2 F3 H3 sa2 k3 _ ?_⟩
      cases qb : fb e2 S3 with
      | none => rw [qb] at h3; exact h3.elim
      | some o =>
        rw [qb] at h3
        cases o with
        | nx e6 S6 => exact fun σ6 F6 H6 sa6 k6 s6 => ⟨e6, S6, F6, sa6, k6, PostS.of (g3.ff.trans s6) h3⟩
        | ct e6 S6 => exact fun σ6 F6 H6 sa6 k6 s6 => ⟨e6, S6, F6, sa6, k6, PostS.of (g3.ff.trans s6) h3⟩
        | bk e6 S6 => exact fun σ6 F6 H6 sa6 k6 s6 => h3 σ6 F6 H6 sa6 k6 (g3.ff.trans s6)
        | rt d S6 => exact fun e6 σ6 v F6 H6 sa6 k6 s6 r6 => h3 e6 σ6 v F6 H6 sa6 k6 (g3.ff.trans s6) r6
        | ex x e6 S6 => exact fun σ6 F6 H6 sa6 k6 s6 => h3 σ6 F6 H6 sa6 k6 (g3.ff.trans s6)
        | rn ds S6 => exact fun e6 σ6 p ws F6 H6 sa6 k6 s6 => h3 e6 σ6 p ws F6 H6 sa6 k6 (g3.ff.trans s6)
end
end AU
namespace AU
open PySem PySem.Spec PyProof.Rows L2

/-! ### lists of one's own -/
def ownA : List It → List V → List Addr
  | .l _ :: its, .ref p :: vs => p :: ownA its vs
  | .m _ _ :: its, .ref p :: vs => p :: ownA its vs
  | _ :: its, _ :: vs => ownA its vs
  | _, _ => []
inductive NewOk (B : Bs) (H F' H' : Hp) : List It → List V → Prop
  | nil : NewOk B H F' H' [] []
  | consD {v : V} {d : DD} {its : List It} {vs : List V} : Rp B.K F' v d → NewOk B H F' H' its vs → NewOk B H F' H' (.d d :: its) (v :: vs)
  | consL {p : Addr} {ws : List V} {ds : List DD} {its : List It} {vs : List V} : Fr B H p → F' p = none → H' p = some (.lst ws) → RpA B.K F' ws ds → (∀ q ∈ ownA its vs, q ≠ p) → NewOk B H F' H' its vs → NewOk B H F' H' (.l ds :: its) (.ref p :: vs)
  | consM {p : Addr} {xs : List DEnt} {ks ws : List DD} {its : List It} {vs : List V} : Fr B H p → F' p = none → H' p = some (dxO p xs) → MpOk B.K F' xs ks ws → (∀ q ∈ ownA its vs, q ≠ p) → NewOk B H F' H' its vs → NewOk B H F' H' (.m ks ws :: its) (.ref p :: vs)
theorem NewOk.back {B : Bs} {H0 H F' H' : Hp} (h : ∀ a o, H0 a = some o → Kp B o → ∃ o', H a = some o' ∧ Kp B o') : ∀ {its : List It} {vs : List V}, NewOk B H F' H' its vs → NewOk B H0 F' H' its vs
  | _, _, .nil => .nil
  | _, _, .consD r n => .consD r (NewOk.back h n)
  | _, _, .consL h1 h2 h3 h4 h5 n =>   .consL (fun o e k => let ⟨o', e', k'⟩ := h _ o e k; h1 o' e' k') h2 h3 h4 h5 (NewOk.back h n)
  | _, _, .consM h1 h2 h3 h4 h5 n =>   .consM (fun o e k => let ⟨o', e', k'⟩ := h _ o e k; h1 o' e' k') h2 h3 h4 h5 (NewOk.back h n)
theorem NewOk.own {B : Bs} {H F' H' : Hp} : ∀ {its : List It} {vs : List V}, NewOk B H F' H' its vs → ∀ q ∈ ownA its vs, Fr B H q
  | _, _, .nil => fun q h => by simp [ownA] at h
  | _, _, .consD r n => fun q h => NewOk.own n q (by simpa [ownA] using h)
  | _, _, .consL h1 _ _ _ _ n => fun q h => by
    simp only [ownA, List.mem_cons] at h
    rcases h with rfl | h
    · exact h1
    · exact NewOk.own n q h
  | _, _, .consM h1 _ _ _ _ n => fun q h => by
    simp only [ownA, List.mem_cons] at h
    rcases h with rfl | h
    · exact h1
    · exact NewOk.own n q h
def GoodM (B : Bs) (env : Env) (σ : L2.St) (F H : Hp) (sa : Option Addr) (Q : VK) : List DD × List DD → Sr → Prop := fun r S => ∀ p xs F' H', Ok B env S σ F' H' sa → Gw B sa F H F' H' → Fr B H p → F' p = none → H' p = some (dxO p xs) → MpOk B.K F' xs r.1 r.2 → Q (.ref p) H'
def SndM (B : Bs) (W : WX) (te : TE) (f : Env → M (List DD × List DD)) : Prop := ∀ env S σ F H sa, Ok B env S σ F H sa → ∀ Q : VK, Post (GoodM B env σ F H sa Q) (Bad B W env σ F H sa) (f env S) → te σ H Q
structure DM (X : Cx) (B : Bs) (W : WX) (e : Expr) (f : Env → M (List DD × List DD)) : Prop where
  ex : ∃ te, PE X e te ∧ SndM B W te f
def GoodN (B : Bs) (env : Env) (σ : L2.St) (F H : Hp) (sa : Option Addr) (Q : VK) : List DD → Sr → Prop := fun ds S => ∀ p ws F' H', Ok B env S σ F' H' sa → Gw B sa F H F' H' → Fr B H p → F' p = none → H' p = some (.lst ws) → RpA B.K F' ws ds → Q (.ref p) H'
def GoodP (B : Bs) (env : Env) (σ : L2.St) (F H : Hp) (sa : Option Addr) (Q : List V → Hp → Prop) : List It → Sr → Prop := fun its S => ∀ vs F' H', Ok B env S σ F' H' sa → Gw B sa F H F' H' → NewOk B H F' H' its vs → Q vs H'
def SndN (B : Bs) (W : WX) (te : TE) (f : Env → M (List DD)) : Prop := ∀ env S σ F H sa, Ok B env S σ F H sa → ∀ Q : VK, Post (GoodN B env σ F H sa Q) (Bad B W env σ F H sa) (f env S) → te σ H Q
def SndP (B : Bs) (W : WX) (ta : TA) (f : Env → M (List It)) : Prop := ∀ env S σ F H sa, Ok B env S σ F H sa → ∀ Q : List V → Hp → Prop, Post (GoodP B env σ F H sa Q) (Bad B W env σ F H sa) (f env S) → ta σ H Q
structure DN (X : Cx) (B : Bs) (W : WX) (e : Expr) (f : Env → M (List DD)) : Prop where
  ex : ∃ te, PE X e te ∧ SndN B W te f
structure DP (X : Cx) (B : Bs) (W : WX) (es : List Expr) (f : Env → M (List It)) : Prop where
  ex : ∃ te, PA X es te ∧ SndP B W te f
def nLst (f : Env → M (List DD)) : Env → M (List DD) := fun env => bnd (f env) fun ds => if szOk ds.length = true then ret ds else stk
def pNil : Env → M (List It) := fun _ => ret []
def pD (f : Env → M DD) (r : Env → M (List It)) : Env → M (List It) := fun env => bnd (f env) fun x => bnd (r env) fun xs => ret (.d x :: xs)
def pL (f : Env → M (List DD)) (r : Env → M (List It)) : Env → M (List It) := fun env => bnd (f env) fun x => bnd (r env) fun xs => ret (.l x :: xs)
def pM (f : Env → M (List DD × List DD)) (r : Env → M (List It)) : Env → M (List It) := fun env => bnd (f env) fun x => bnd (r env) fun xs => ret (.m x.1 x.2 :: xs)
def mNew : Env → M (List DD × List DD) := fun _ => ret ([], [])
/-- dict(pairs) -/
def mDict (f : Env → M (List DD)) : Env → M (List DD × List DD) := fun env => bnd (f env) fun ds => match ds with
  | [.lst ps] => match pairsD ps with
    | some l => ret (putAllD ([], []) l)
    | none => stk
  | _ => stk
def eDict (f : Env → M (List DD)) : Env → M DD := fun env => bnd (mDict f env) fun r => ret (.dct r.1 r.2)
def setIts (env : Env) : List Nat → List It → Option Env
  | [], [] => some env
  | i :: is, it :: its => setIts (env.set i (some it)) is its
  | _, _ => none
def setVs (σ : L2.St) : List Nat → List V → Option L2.St
  | [], [] => some σ
  | i :: is, v :: vs => setVs (σ.set i (some v)) is vs
  | _, _ => none
def sPar (is : List Nat) (f : Env → M (List It)) : SF := thenS f fun its env S => (setIts env is its).map fun e => .nx e S
def sSetL (i : Nat) (f : Env → M (List DD)) : SF := thenS f fun ds env S => some (.nx (env.set i (some (.l ds))) S)
def sSetM (i : Nat) (f : Env → M (List DD × List DD)) : SF := thenS f fun r env S => some (.nx (env.set i (some (.m r.1 r.2))) S)
def ownGM (i : Nat) (k : List DD → List DD → SF) : SF := fun env S => match env[i]? with
  | some (some (.m ks vs)) => k ks vs env S
  | _ => none
/-- x.append(e), x[i] = e of a list of one's own -/
def ownG (i : Nat) (k : List DD → SF) : SF := fun env S => match env[i]? with
  | some (some (.l xs)) => k xs env S
  | _ => none
def sApp (i : Nat) (f : Env → M DD) : SF := ownG i fun xs => thenS f fun d env S => if szOk (xs.length + 1) = true then some (.nx (env.set i (some (.l (xs ++ [d])))) S) else none
def putE (f g : Env → M DD) : Env → M (DD × DD) := fun env => bnd (f env) fun d => bnd (g env) fun j => ret (d, j)
def putK (i : Nat) (xs : List DD) (p : DD × DD) (env : Env) (S : Sr) : Option Out := match p.2 with
  | .int z => (ixN xs.length z).map fun j => .nx (env.set i (some (.l (xs.set j p.1)))) S
  | _ => none
def sPut (i : Nat) (f g : Env → M DD) : SF := ownG i fun xs => thenS (putE f g) (putK i xs)
/-- d[k] = v of a dict of one's own -/
def putKM (i : Nat) (ks vs : List DD) (p : DD × DD) (env : Env) (S : Sr) : Option Out := match keyD p.2 with
  | some k => if szOk (ks.length + 1) = true then some (.nx (env.set i (some (.m (putD k p.2 p.1 ks vs).1 (putD k p.2 p.1 ks vs).2))) S) else none
  | none => none
def sPutM (i : Nat) (f g : Env → M DD) : SF := ownGM i fun ks vs => thenS (putE f g) (putKM i ks vs)
def eOwnM (i : Nat) (k : List DD → List DD → Env → M DD) : Env → M DD := fun env => match env[i]? with
  | some (some (.m ks vs)) => k ks vs env
  | _ => stk
/-- d[k], k in d of a dict of one's own -/
def eGetM (i : Nat) (g : Env → M DD) : Env → M DD := eOwnM i fun ks vs env => bnd (g env) fun j => getDD ks vs j
def inDD (c : Bool) (ks vs : List DD) (y : DD) : M DD := match keyD y with
  | some k => ret (.bl (c != (findD k ks vs).isSome))
  | none => stk
def eInM (c : Bool) (i : Nat) (g : Env → M DD) : Env → M DD := fun env => bnd (g env) fun j => match env[i]? with
  | some (some (.m ks vs)) => inDD c ks vs j
  | _ => stk
/-- x[i], len(x) of a list of one's own -/
def eOwn (i : Nat) (k : List DD → Env → M DD) : Env → M DD := fun env => match env[i]? with
  | some (some (.l xs)) => k xs env
  | _ => stk
def eIxL (i : Nat) (g : Env → M DD) : Env → M DD := eOwn i fun xs env => bnd (g env) fun j => opIx (.lst xs) j
def eLenL (i : Nat) : Env → M DD := eOwn i fun xs _ => ret (.int xs.length)
section
variable {B : Bs} {W : WX} {X : Cx} {e e2 : Expr} {es : List Expr} {fr : Env → M (List DD)} {fn : Env → M (List DD)} {fp : Env → M (List It)} {fa fb : Env → M DD} {pos : Pos}
theorem Ok.fresh {env : Env} {S : Sr} {σ : L2.St} {F H : Hp} {sa : Option Addr} (k : Ok B env S σ F H sa) {p : Addr} (hp : Fr B H p) : Fr B B.H0 p ∧ sa ≠ some p ∧ Apart env σ p :=
  ⟨k.fr0 hp, fun z => hp _ (k.so p z).2.1 .lst, k.apart hp⟩
theorem fr_new {sa : Option Addr} {F H F1 H1 : Hp} (g1 : Gw B sa F H F1 H1) {p : Addr} (hp : H1 p = none) : Fr B H p := fun o e ko => by
  obtain ⟨o', e', _⟩ := g1.hh p o e ko
  rw [hp] at e'
  cases e'
theorem dm_new : DM X B W (.Dict [] [] pos) mNew := by
  refine ⟨_, pe_xnew, fun env S σ F H sa k Q hq p hp => ?_⟩
  obtain ⟨k2, g2, fp, _, _⟩ := k.newH hp (dxO p [])
  exact hq p [] F _ k2 g2 (Fr.of hp) fp upd_same .nil
theorem dn_lst (h : DA X B W es fr) : DN X B W (.List es pos) (nLst fr) := by
  obtain ⟨t, p, s⟩ := h.ex
  refine ⟨_, pe_lst p, fun env S σ F H sa k Q hq => s env S σ F H sa k _ ((Post.bnd hq).imp fun ds S1 h1 vs F1 H1 k1 g1 r1 => ?_)⟩
  obtain ⟨c, h1⟩ := post_if h1
  refine ⟨by rw [r1.length]; exact szOk.le c, fun p hp => ?_⟩
  obtain ⟨k2, g2, fp, _, _⟩ := k1.newH hp (.lst vs)
  have h0 : Fr B H p := fun o e ko => by
    obtain ⟨o', e', _⟩ := g1.hh p o e ko
    rw [hp] at e'
    cases e'
  exact h1 p vs F1 _ k2 (g1.trans g2) h0 fp upd_same r1
theorem dp_nil : DP X B W [] pNil := ⟨_, pa_nil, fun env S σ F H sa k Q h => h [] F H k Gw.refl .nil⟩
theorem Post.sameP {env : Env} {σ : L2.St} {F F' H H' : Hp} {sa : Option Addr} {Q : List V → Hp → Prop} {r : Option (Except Ex (List It) × Sr)} (e : Gw B sa F H F' H') (g : Post (GoodP B env σ F H sa Q) (Bad B W env σ F H sa) r) : Post (GoodP B env σ F' H' sa Q) (Bad B W env σ F' H' sa) r :=
  g.mono (fun _ _ g vs F2 H2 k s r => g vs F2 H2 k (e.trans s) (r.back e.hh)) fun _ _ => Bad.of e
theorem dp_d (ha : DE X B W e fa) (hr : DP X B W es fp) (hs : starEach (e :: es) X.env = (false, eval e X.env) :: starEach es X.env := by rfl) : DP X B W (e :: es) (pD fa fp) := by
  obtain ⟨ta, pa, sa⟩ := ha.ex
  obtain ⟨tr, pr, sr⟩ := hr.ex
  refine ⟨_, pa_cons pa pr hs, fun env S σ F H sa' k Q h => sa env S σ F H sa' k _ ((Post.bnd h).imp fun x S1 h1 v F1 H1 k1 s1 r1 => ?_)⟩
  exact sr env S1 σ F1 H1 sa' k1 _ ((Post.bnd (h1.sameP s1)).imp fun xs S2 h2 vs F2 H2 k2 s2 r2 => h2 (v :: vs) F2 H2 k2 s2 (.consD (Rp.same s2.ff x r1) r2))
theorem dp_m {fm : Env → M (List DD × List DD)} (ha : DM X B W e fm) (hr : DP X B W es fp) (hs : starEach (e :: es) X.env = (false, eval e X.env) :: starEach es X.env := by rfl) : DP X B W (e :: es) (pM fm fp) := by
  obtain ⟨ta, pa, sa⟩ := ha.ex
  obtain ⟨tr, pr, sr⟩ := hr.ex
  refine ⟨_, pa_cons pa pr hs, fun env S σ F H sa' k Q h => sa env S σ F H sa' k _ ((Post.bnd h).imp fun x S1 h1 p ws F1 H1 k1 s1 hp fp1 hp1 r1 => ?_)⟩
  have hq := Post.bnd h1
  refine sr env S1 σ F1 H1 sa' k1 _ (hq.mono (fun xs S2 h2 vs F2 H2 k2 s2 r2 => ?_) fun _ _ => Bad.of s1)
  have hs' : sa' ≠ some p := (k.fresh hp).2.1
  refine h2 (.ref p :: vs) F2 H2 k2 (s1.trans s2) (.consM hp (s2.nf p _ hp1 .dx fp1) (s2.kp p _ hp1 hs' .dx) (r1.same s2.ff) (fun q hq z => ?_) (r2.back s1.hh))
  exact r2.own q hq _ (z ▸ hp1) .dx
theorem dp_l (ha : DN X B W e fn) (hr : DP X B W es fp) (hs : starEach (e :: es) X.env = (false, eval e X.env) :: starEach es X.env := by rfl) : DP X B W (e :: es) (pL fn fp) := by
  obtain ⟨ta, pa, sa⟩ := ha.ex
  obtain ⟨tr, pr, sr⟩ := hr.ex
  refine ⟨_, pa_cons pa pr hs, fun env S σ F H sa' k Q h => sa env S σ F H sa' k _ ((Post.bnd h).imp fun x S1 h1 p ws F1 H1 k1 s1 hp fp1 hp1 r1 => ?_)⟩
  have hq := Post.bnd h1
  refine sr env S1 σ F1 H1 sa' k1 _ (hq.mono (fun xs S2 h2 vs F2 H2 k2 s2 r2 => ?_) fun _ _ => Bad.of s1)
  have hs' : sa' ≠ some p := (k.fresh hp).2.1
  refine h2 (.ref p :: vs) F2 H2 k2 (s1.trans s2) (.consL hp (s2.nf p _ hp1 .lst fp1) (s2.kp p _ hp1 hs' .lst) (RpA.same s2.ff x r1) (fun q hq z => ?_) (r2.back s1.hh))
  exact r2.own q hq _ (z ▸ hp1) .lst
theorem Apart.setD {env : Env} {σ : L2.St} {q : Addr} (h : Apart env σ q) (i : Nat) (x : It) (hx : isOwn x = false) (v : Option V) : Apart (env.set i (some x)) (σ.set i v) q := fun j y ej oy zj => by
  rcases get_set ej with ⟨_, z, _⟩ | ⟨ne, e2⟩
  · cases z
    rw [hx] at oy
    cases oy
  · rw [List.getElem?_set_ne ne] at zj
    exact h j y e2 oy zj
theorem Apart.setO {env : Env} {σ : L2.St} {q p : Addr} (h : Apart env σ q) (hl : env.length = σ.length) (ne : q ≠ p) (i : Nat) (x : It) : Apart (env.set i (some x)) (σ.set i (some (.ref p))) q := fun j y ej oy zj => by
  rcases get_set ej with ⟨rfl, z, hl'⟩ | ⟨n2, e2⟩
  · rw [List.getElem?_set_self (by rw [← hl]; exact hl')] at zj
    cases zj
    exact ne rfl
  · rw [List.getElem?_set_ne n2] at zj
    exact h j y e2 oy zj
/-- what is new goes to the slots -/
theorem ok_sets {H0 : Hp} {S : Sr} {F H : Hp} {sa : Option Addr} : ∀ (is : List Nat) (env : Env) (σ : L2.St) (its : List It) (vs : List V) (env' : Env), Ok B env S σ F H sa → NewOk B H0 F H its vs → (∀ p, Fr B H0 p → Fr B B.H0 p ∧ sa ≠ some p) →
    (∀ q ∈ ownA its vs, Apart env σ q) → setIts env is its = some env' → ∃ σ', setVs σ is vs = some σ' ∧ Ok B env' S σ' F H sa
  | [], env, σ, its, vs, env', k, n, hn, hd, he => by
    cases n with
    | nil =>
      cases he
      exact ⟨σ, rfl, k⟩
    | consD _ _ => cases he
    | consL _ _ _ _ _ _ => cases he
    | consM _ _ _ _ _ _ => cases he
  | i :: is, env, σ, its, vs, env', k, n, hn, hd, he => by
    cases n with
    | nil => cases he
    | @consD v d its vs r n =>
      exact ok_sets is _ _ its vs env' (k.setD i r) n hn (fun q hq => (hd q (by simpa [ownA] using hq)).setD i _ rfl _) he
    | @consL p ws ds its vs h1 h2 h3 h4 h5 n =>
      obtain ⟨b0, hs⟩ := hn p h1
      exact ok_sets is _ _ its vs env' (k.setL i h2 b0 hs h3 h4 fun j y _ ej oy => hd p (by simp [ownA]) j y ej oy) n hn (fun q hq => (hd q (by simp [ownA, hq])).setO k.len (h5 _ hq) i _) he
    | @consM p ws ks vs' its vs h1 h2 h3 h4 h5 n =>
      obtain ⟨b0, hs⟩ := hn p h1
      exact ok_sets is _ _ its vs env' (k.setM i h2 b0 hs h3 h4 fun j y _ ej oy => hd p (by simp [ownA]) j y ej oy) n hn (fun q hq => (hd q (by simp [ownA, hq])).setO k.len (h5 _ hq) i _) he
theorem par_post {is : List Nat} {D : Ends} {env : Env} {S : Sr} {σ : L2.St} {F H : Hp} {sa : Option Addr} (k : Ok B env S σ F H sa) (h : PostS B W D F (sPar is fp env S)) :
    Post (GoodP B env σ F H sa (fun vs H1 => ∃ σ', setVs σ is vs = some σ' ∧ D.nx σ' H1)) (Bad B W env σ F H sa) (fp env S) :=
  (post_exp k h).imp fun its S1 h1 vs F1 H1 k1 g1 n => by
    cases q : setIts env is its with
    | none => rw [q] at h1; exact h1.elim
    | some env' =>
      rw [q] at h1
      obtain ⟨σ', e1, k2⟩ := ok_sets is env σ its vs env' k1 n (fun p hp => ⟨(k.fresh hp).1, (k.fresh hp).2.1⟩) (fun p hp => (k.fresh (n.own p hp)).2.2) q
      exact ⟨σ', e1, h1 σ' F1 H1 sa k2 g1.ff⟩
theorem ds_par2 {i j : Nat} {x y : Str} {a b : Expr} {px py pt : Pos} {kt k2 pt2} (hc : X.calm = true) (hN : X.N.Nodup) (ha : DP X B W [a, b] fp)
    (hi : X.N[i]? = some x := by rfl) (hj : X.N[j]? = some y := by rfl) (hij : i ≠ j := by decide)
    (hx : X.env.scope.names.lookup x = some .local := by rfl) (hy : X.env.scope.names.lookup y = some .local := by rfl)
    (hw : swappedStores [.Tuple [.Name x px, .Name y py] kt pt] (.Tuple [a, b] k2 pt2) X.env = pure (some [x, y]) := by rfl)
    (hs : swapsWithSole [.Tuple [.Name x px, .Name y py] kt pt] (.Tuple [a, b] k2 pt2) pos.line X.env = pure false := by rfl) :
    DS X B W (.Assign [.Tuple [.Name x px, .Name y py] kt pt] (.Tuple [a, b] k2 pt2) pos) (sPar [i, j] fp) := by
  obtain ⟨t, p, s⟩ := ha.ex
  refine ⟨_, ps_par hc hN hi hj hij hx hy p hw hs, fun env S σ F H sa k D h => s env S σ F H sa k _ ((par_post k h).imp fun its S1 h1 vs F1 H1 k1 g1 n => ?_)⟩
  obtain ⟨σ', e1, q⟩ := h1 vs F1 H1 k1 g1 n
  match vs, e1 with
  | [v, w], e1 =>
    cases e1
    exact ⟨v, w, rfl, q⟩
theorem ds_par3 {i j l : Nat} {x y z : Str} {a b c : Expr} {px py pz pt : Pos} {kt k2 pt2} (hc : X.calm = true) (hN : X.N.Nodup) (ha : DP X B W [a, b, c] fp)
    (hi : X.N[i]? = some x := by rfl) (hj : X.N[j]? = some y := by rfl) (hl : X.N[l]? = some z := by rfl) (hij : i ≠ j := by decide) (hil : i ≠ l := by decide) (hjl : j ≠ l := by decide)
    (hx : X.env.scope.names.lookup x = some .local := by rfl) (hy : X.env.scope.names.lookup y = some .local := by rfl) (hz : X.env.scope.names.lookup z = some .local := by rfl)
    (hw : swappedStores [.Tuple [.Name x px, .Name y py, .Name z pz] kt pt] (.Tuple [a, b, c] k2 pt2) X.env = pure (some [x, y, z]) := by rfl)
    (hs : swapsWithSole [.Tuple [.Name x px, .Name y py, .Name z pz] kt pt] (.Tuple [a, b, c] k2 pt2) pos.line X.env = pure false := by rfl) :
    DS X B W (.Assign [.Tuple [.Name x px, .Name y py, .Name z pz] kt pt] (.Tuple [a, b, c] k2 pt2) pos) (sPar [i, j, l] fp) := by
  obtain ⟨t, p, s⟩ := ha.ex
  refine ⟨_, L2.ps_par3 hc hN hi hj hl hij hil hjl hx hy hz p hw hs, fun env S σ F H sa k D h => s env S σ F H sa k _ ((par_post k h).imp fun its S1 h1 vs F1 H1 k1 g1 n => ?_)⟩
  obtain ⟨σ', e1, q⟩ := h1 vs F1 H1 k1 g1 n
  match vs, e1 with
  | [u, v, w], e1 =>
    cases e1
    exact ⟨u, v, w, rfl, q⟩
theorem ds_setL (i : Nat) {x : Str} {px : Pos} (hN : X.N.Nodup) (he : DN X B W e fn) (hi : X.N[i]? = some x := by rfl) (hx : Loc X.env.scope x := by first | exact Or.inl rfl | exact Or.inr rfl) (hf : X.fn x = true ∨ X.env.scope.names.lookup x = some .local := by first | exact .inl rfl | exact .inr rfl)
    (hs : swapsWithSole [.Name x px] e pos.line X.env = pure false := by rfl) (hw : swappedStores [.Name x px] e X.env = pure none := by rfl)
    (h1 : (assignEach [.Name x px] X.env).map (·.2) = [assign (.Name x px) X.env] := by rfl) : DS X B W (.Assign [.Name x px] e pos) (sSetL i fn) := by
  obtain ⟨t, p, s⟩ := he.ex
  refine ⟨_, ps_asg p (pg_name hN hi hx hf) hs hw h1, fun env S σ F H sa k D h => s env S σ F H sa k _ ((post_exp k h).imp fun ds S1 h1 p ws F1 H1 k1 g1 hp fp hp1 r1 => ?_)⟩
  obtain ⟨b0, hs', hd⟩ := k.fresh hp
  exact h1 _ F1 H1 sa (k1.setL i fp b0 hs' hp1 r1 fun j y _ ej oy => hd j y ej oy) g1.ff
theorem own_at {env : Env} {S : Sr} {σ : L2.St} {F H : Hp} {sa : Option Addr} (k : Ok B env S σ F H sa) {i : Nat} {xs : List DD} (e : env[i]? = some (some (.l xs))) :
    ∃ a vs, σ[i]? = some (some (.ref a)) ∧ F a = none ∧ Fr B B.H0 a ∧ sa ≠ some a ∧ H a = some (.lst vs) ∧ RpA B.K F vs xs := by
  obtain ⟨v, h1, a, vs, rfl, h2, h3, h4, h5, h6⟩ := k.sl i _ e
  exact ⟨a, vs, h1, h2, h3, h4, h5, h6⟩
/-- the object changes, the slot's word with it -/
theorem Ok.turnO {env : Env} {S : Sr} {σ : L2.St} {F H : Hp} {sa : Option Addr} (k : Ok B env S σ F H sa) {i : Nat} {x y : It} {a : Addr} {u w : HO} (e : env[i]? = some (some x)) (ox : isOwn x = true) (ea : σ[i]? = some (some (.ref a))) (h2 : F a = none) (h3 : Fr B B.H0 a) (h4 : sa ≠ some a) (h5 : H a = some u) (hu : OwnO u)
    (hy : ItOk B F (upd H a w) sa y (.ref a)) : Ok B (env.set i (some y)) S σ F (upd H a w) sa := by
  have hi : i < env.length := (List.getElem?_eq_some_iff.mp e).1
  have k1 : Ok B (env.set i none) S (σ.set i none) F H sa := k.unset i none
  have k2 : Ok B (env.set i none) S (σ.set i none) F (upd H a w) sa := k1.mut h5 hu h2 h3 h4 fun j z ej oz zj => by
    rcases get_set ej with ⟨_, z, _⟩ | ⟨ne, e2⟩
    · cases z
    · rw [List.getElem?_set_ne ne] at zj
      exact k.dj i j x z a ne e ox e2 oz ea zj
  have k3 := k2.setO i (p := a) (it0 := y) hy fun j z ne ej oz zj => by
    rcases get_set ej with ⟨z, _, _⟩ | ⟨n2, e2⟩
    · exact ne z.symm
    · rw [List.getElem?_set_ne n2] at zj
      exact k.dj i j x z a n2 e ox e2 oz ea zj
  have e1 : (env.set i none).set i (some y) = env.set i (some y) := by rw [List.set_set]
  have e2 : (σ.set i none).set i (some (V.ref a)) = σ := by
    rw [List.set_set]
    apply List.ext_getElem?
    intro j
    by_cases hj : i = j
    · subst hj
      rw [List.getElem?_set_self (by rw [← k.len]; exact hi), ea]
    · rw [List.getElem?_set_ne hj]
  rw [e1, e2] at k3
  exact k3
theorem Ok.turn {env : Env} {S : Sr} {σ : L2.St} {F H : Hp} {sa : Option Addr} (k : Ok B env S σ F H sa) {i : Nat} {xs ys : List DD} {a : Addr} {ws : List V} (e : env[i]? = some (some (.l xs))) (ea : σ[i]? = some (some (.ref a))) (r : RpA B.K F ws ys) :
    Ok B (env.set i (some (.l ys))) S σ F (upd H a (.lst ws)) sa := by
  obtain ⟨a', vs, h1, h2, h3, h4, h5, h6⟩ := own_at k e
  rw [ea] at h1
  cases h1
  exact k.turnO e rfl ea h2 h3 h4 h5 (.inl ⟨_, rfl⟩) ⟨a, ws, rfl, h2, h3, h4, upd_same, r⟩
theorem ownM_at {env : Env} {S : Sr} {σ : L2.St} {F H : Hp} {sa : Option Addr} (k : Ok B env S σ F H sa) {i : Nat} {ks vs : List DD} (e : env[i]? = some (some (.m ks vs))) :
    ∃ a xs, σ[i]? = some (some (.ref a)) ∧ F a = none ∧ Fr B B.H0 a ∧ sa ≠ some a ∧ H a = some (dxO a xs) ∧ MpOk B.K F xs ks vs := by
  obtain ⟨v, h1, a, xs, rfl, h2, h3, h4, h5, h6⟩ := k.sl i _ e
  exact ⟨a, xs, h1, h2, h3, h4, h5, h6⟩
theorem Ok.turnM {env : Env} {S : Sr} {σ : L2.St} {F H : Hp} {sa : Option Addr} (k : Ok B env S σ F H sa) {i : Nat} {ks vs ks' vs' : List DD} {a : Addr} {xs' : List DEnt} (e : env[i]? = some (some (.m ks vs))) (ea : σ[i]? = some (some (.ref a))) (r : MpOk B.K F xs' ks' vs') :
    Ok B (env.set i (some (.m ks' vs'))) S σ F (upd H a (dxO a xs')) sa := by
  obtain ⟨a', xs, h1, h2, h3, h4, h5, h6⟩ := ownM_at k e
  rw [ea] at h1
  cases h1
  exact k.turnO e rfl ea h2 h3 h4 h5 (.inr ⟨_, _, rfl⟩) ⟨a, xs', rfl, h2, h3, h4, upd_same, r⟩
theorem ownGM_inv {i : Nat} {kk : List DD → List DD → SF} {env : Env} {S : Sr} {D : Ends} {F : Hp} (h : PostS B W D F (ownGM i kk env S)) : ∃ ks vs, env[i]? = some (some (.m ks vs)) ∧ PostS B W D F (kk ks vs env S) := by
  unfold ownGM at h
  split at h
  · rename_i ks vs q
    exact ⟨ks, vs, q, h⟩
  · exact h.elim
theorem ownG_inv {i : Nat} {kk : List DD → SF} {env : Env} {S : Sr} {D : Ends} {F : Hp} (h : PostS B W D F (ownG i kk env S)) : ∃ xs, env[i]? = some (some (.l xs)) ∧ PostS B W D F (kk xs env S) := by
  unfold ownG at h
  split at h
  · rename_i xs q
    exact ⟨xs, q, h⟩
  · exact h.elim
theorem postS_if {D : Ends} {F : Hp} {c : Bool} {o : Option Out} (h : PostS B W D F (if c = true then o else none)) : c = true ∧ PostS B W D F o := by
  cases c with
  | true => exact ⟨rfl, h⟩
  | false => exact h.elim
theorem ds_app (i : Nat) {x : Str} {px pa' pc : Pos} (ha : DE X B W e fa) (hN : X.N[i]? = some x := by rfl) (hv : Vis X.env.scope x := by first | exact Or.inl rfl | exact Or.inr (Or.inl rfl) | exact Or.inr (Or.inr rfl)) (hd : (x == ("__debug__" : Str)) = false := by decide)
    (hcd : (x == ("__classdict__" : Str)) = false := by decide) (hsw : swapsWith (.Call (.Attribute (.Name x px) "append" pa') [e] [] pc) none pos.line X.env = pure false := by rfl)
    (hm : ∀ (to : TE) (t : TA), PE X (.Name x px) to → PA X [e] t → PE X (.Call (.Attribute (.Name x px) "append" pa') [e] [] pc) (tBM X.K "list" rAppend to t) := by exact fun to t ho ha => pe_bm PySem.F.plainAttrs_list PySem.F.slot_list_append PySem.F.type_list_append mt_append ho ha)
    (hs : starEach [e] X.env = (false, eval e X.env) :: starEach [] X.env := by rfl) : DS X B W (.Expr (.Call (.Attribute (.Name x px) "append" pa') [e] [] pc) pos) (sApp i fa) := by
  obtain ⟨t, p, s⟩ := ha.ex
  refine ⟨_, ps_expr (hm _ _ (pe_var hN hv hd hcd) (pa_cons p pa_nil hs)) hsw, fun env S σ F H sa k D h => ?_⟩
  obtain ⟨xs, q, h⟩ := ownG_inv h
  obtain ⟨a, vs, e1, e2, e3, e4, e5, e6⟩ := own_at k q
  refine ⟨.ref a, e1, .inl ⟨rfl, vs, SqL.of e5⟩, s env S σ F H sa k _ ((post_exp k h).imp fun d S1 h1 v F1 H1 k1 g1 r1 => ?_)⟩
  obtain ⟨b, ws, c1, c2, c3, c4, c5, c6⟩ := own_at k1 q
  rw [e1] at c1
  cases c1
  obtain ⟨hz, h1⟩ := postS_if h1
  refine ⟨a, ws, v, rfl, rfl, c5, Nat.lt_of_lt_of_le (Nat.lt_succ_self _) (by rw [c6.length]; exact szOk.le hz), ?_⟩
  exact h1 σ F1 _ sa (k1.turn q e1 (c6.append (.cons r1 .nil))) g1.ff
theorem ds_put (i : Nat) {x : Str} {px ps : Pos} (hK : B.K = X.K) (ha : DE X B W e fa) (hb : DE X B W e2 fb) (hN : X.N[i]? = some x := by rfl) (hv : Vis X.env.scope x := by first | exact Or.inl rfl | exact Or.inr (Or.inl rfl) | exact Or.inr (Or.inr rfl)) (hd : (x == ("__debug__" : Str)) = false := by decide)
    (hcd : (x == ("__classdict__" : Str)) = false := by decide) (hasg : ∀ v, assign (.Subscript (.Name x px) e2 ps) X.env v = (do
      let ov ← holding [v] (eval (.Name x px) X.env)
      let iv ← holding [v, ov] (eval e2 X.env)
      standAt ps
      holding [v, ov, iv] (setItem ov iv v)
      release [v, ov, iv] []) := by intro _; rfl)
    (hs : swapsWithSole [.Subscript (.Name x px) e2 ps] e pos.line X.env = pure false := by rfl) (hw : swappedStores [.Subscript (.Name x px) e2 ps] e X.env = pure none := by rfl)
    (h1 : (assignEach [.Subscript (.Name x px) e2 ps] X.env).map (·.2) = [assign (.Subscript (.Name x px) e2 ps) X.env] := by rfl) : DS X B W (.Assign [.Subscript (.Name x px) e2 ps] e pos) (sPut i fa fb) := by
  obtain ⟨t, p, s⟩ := ha.ex
  obtain ⟨t2, p2, s2⟩ := hb.ex
  refine ⟨_, ps_asg p (pg_sub (pe_var hN hv hd hcd) p2 set_list hasg) hs hw h1, fun env S σ F H sa k D h => ?_⟩
  obtain ⟨xs, q, h⟩ := ownG_inv h
  obtain ⟨a, vs, e1, e2, e3, e4, e5, e6⟩ := own_at k q
  refine s env S σ F H sa k _ ((Post.bnd (post_exp k h)).imp fun d S1 h1 v F1 H1 k1 g1 r1 => ⟨.ref a, e1, ?_⟩)
  have h2 := Post.bnd h1
  refine s2 env S1 σ F1 H1 sa k1 _ (h2.mono (fun j S2 h3 w F2 H2 k2 g2 r2 => ?_) fun _ _ => Bad.of g1)
  obtain ⟨b, ws, c1, c2, c3, c4, c5, c6⟩ := own_at k2 q
  rw [e1] at c1
  cases c1
  have h3 : PostS B W D F (putK i xs (d, j) env S2) := h3
  cases j with
  | int z =>
    cases r2.int_inv
    unfold putK at h3
    simp only at h3
    cases qz : ixN xs.length z with
    | none => rw [qz] at h3; exact h3.elim
    | some jj =>
      rw [qz] at h3
      refine ⟨a, ws, z, jj, rfl, rfl, c5, by rw [c6.length]; exact qz, ?_⟩
      exact h3 σ F2 _ sa (k2.turn q e1 (c6.set jj (Rp.same g2.ff d r1))) (g1.trans g2).ff
  | _ => exact h3.elim
/-- a list of one's own is looked at as data, in the heap as it stands -/
theorem de_own (i : Nat) {x : Str} {px : Pos} {k : List DD → Env → M DD} {e' : Expr} {te : TE} (pe : PE X e' te) (hs : ∀ xs env S σ F H sa a vs, Ok B env S σ F H sa → env[i]? = some (some (.l xs)) → σ[i]? = some (some (.ref a)) → H a = some (.lst vs) → RpA B.K F vs xs →
      ∀ Q : VK, Post (Good B env σ F H sa Q) (Bad B W env σ F H sa) (k xs env S) → te σ H Q) : DE X B W e' (eOwn i k) := by
  refine ⟨_, pe, fun env S σ F H sa hk Q h => ?_⟩
  unfold eOwn at h
  match q : env[i]?, h with
  | some (some (.l xs)), h =>
    obtain ⟨a, vs, e1, e2, e3, e4, e5, e6⟩ := own_at hk q
    exact hs xs env S σ F H sa a vs hk q e1 e5 e6 Q h
  | none, h => exact h.elim
  | some none, h => exact h.elim
  | some (some (.d _)), h => exact h.elim
  | some (some (.m _ _)), h => exact h.elim
  | some (some .s), h => exact h.elim
  | some (some (.sc _)), h => exact h.elim
theorem de_ixL (i : Nat) {x : Str} {px : Pos} (hK : B.K = X.K) (hb : DE X B W e2 fb) (hN : X.N[i]? = some x := by rfl) (hv : Vis X.env.scope x := by first | exact Or.inl rfl | exact Or.inr (Or.inl rfl) | exact Or.inr (Or.inr rfl)) (hd : (x == ("__debug__" : Str)) = false := by decide)
    (hcd : (x == ("__classdict__" : Str)) = false := by decide) (hs : PlainIx e2 := by exact fun _ _ => rfl) : DE X B W (.Subscript (.Name x px) e2 pos) (eIxL i fb) := by
  obtain ⟨t2, p2, s2⟩ := hb.ex
  refine de_own (x := x) (px := px) i (pe_ix ix_seq (pe_var (pos := px) hN hv hd hcd) p2 hs) fun xs env S σ F H sa a vs k q e1 e5 e6 Q h => ⟨.ref a, e1, ?_⟩
  refine s2 env S σ F H sa k _ ((Post.bnd h).imp fun j S1 h1 w F1 H1 k1 g1 r1 => ?_)
  obtain ⟨b, ws, c1, c2, c3, c4, c5, c6⟩ := own_at k1 q
  rw [e1] at c1
  cases c1
  cases j with
  | int z =>
    cases r1.int_inv
    obtain ⟨d, hd2, h1⟩ := post_ofO h1
    obtain ⟨y, hy, ry⟩ := c6.atI hd2
    exact .inl ⟨a, ws, z, y, rfl, rfl, SqL.of c5, hy, h1 _ F1 H1 k1 g1 ry⟩
  | _ => exact h1.elim
theorem de_lenL (i : Nat) {x : Str} {px p : Pos} (hm : X.mg "len" = none) (hN : X.N[i]? = some x := by rfl) (hv : Vis X.env.scope x := by first | exact Or.inl rfl | exact Or.inr (Or.inl rfl) | exact Or.inr (Or.inr rfl)) (hd : (x == ("__debug__" : Str)) = false := by decide)
    (hcd : (x == ("__classdict__" : Str)) = false := by decide) (hg : Gl X "len" := by rfl) (he : starEach [.Name x px] X.env = (false, eval (.Name x px) X.env) :: starEach [] X.env := by rfl) (hpl : (backTo pos (starEach [] X.env)).any (·.1) = false := by rfl) :
    DE X B W (.Call (.Name "len" p) [.Name x px] [] pos) (eLenL i) := by
  refine de_own (x := x) (px := px) i (pe_callB call_len hg hm PySem.boot_len (pa_cons (pe_var (pos := px) hN hv hd hcd) pa_nil he) (by decide) (by decide) he hpl) fun xs env S σ F H sa a vs k q e1 e5 e6 Q h => ⟨.ref a, e1, ?_⟩
  exact ⟨_, xs.length, rfl, .inl ⟨vs, SqL.of e5, by rw [e6.length]⟩, h _ F H k Gw.refl (.int _)⟩
/-! ### dicts of one's own -/
theorem ds_setM (i : Nat) {x : Str} {px : Pos} {fm : Env → M (List DD × List DD)} (hN : X.N.Nodup) (he : DM X B W e fm) (hi : X.N[i]? = some x := by rfl) (hx : Loc X.env.scope x := by first | exact Or.inl rfl | exact Or.inr rfl) (hf : X.fn x = true ∨ X.env.scope.names.lookup x = some .local := by first | exact .inl rfl | exact .inr rfl)
    (hs : swapsWithSole [.Name x px] e pos.line X.env = pure false := by rfl) (hw : swappedStores [.Name x px] e X.env = pure none := by rfl)
    (h1 : (assignEach [.Name x px] X.env).map (·.2) = [assign (.Name x px) X.env] := by rfl) : DS X B W (.Assign [.Name x px] e pos) (sSetM i fm) := by
  obtain ⟨t, p, s⟩ := he.ex
  refine ⟨_, ps_asg p (pg_name hN hi hx hf) hs hw h1, fun env S σ F H sa k D h => s env S σ F H sa k _ ((post_exp k h).imp fun ds S1 h1 p ws F1 H1 k1 g1 hp fp hp1 r1 => ?_)⟩
  obtain ⟨b0, hs', hd⟩ := k.fresh hp
  exact h1 _ F1 H1 sa (k1.setM i fp b0 hs' hp1 r1 fun j y _ ej oy => hd j y ej oy) g1.ff
theorem ds_putM {n : Nat} (i : Nat) {x : Str} {px ps : Pos} (hK : B.K = X.K) (hr : Room n X.A) (ha : DE X B W e fa) (hb : DE X B W e2 fb) (hN : X.N[i]? = some x := by rfl) (hv : Vis X.env.scope x := by first | exact Or.inl rfl | exact Or.inr (Or.inl rfl) | exact Or.inr (Or.inr rfl)) (hd : (x == ("__debug__" : Str)) = false := by decide)
    (hcd : (x == ("__classdict__" : Str)) = false := by decide) (hs : swapsWith e (some (.Subscript (.Name x px) e2 ps)) pos.line X.env = pure false := by rfl) : DS X B W (.Assign [.Subscript (.Name x px) e2 ps] e pos) (sPutM i fa fb) := by
  obtain ⟨t, p, s⟩ := ha.ex
  obtain ⟨t2, p2, s2⟩ := hb.ex
  refine ⟨_, ps_xput hr.units (pe_var hN hv hd hcd) p2 p hs, fun env S σ F H sa k D h => ?_⟩
  obtain ⟨ks, vs, q, h⟩ := ownGM_inv h
  obtain ⟨a, xs, e1, e2, e3, e4, e5, e6⟩ := ownM_at k q
  refine s env S σ F H sa k _ ((Post.bnd (post_exp k h)).imp fun d S1 h1 v F1 H1 k1 g1 r1 => ⟨.ref a, e1, ?_⟩)
  have h2 := Post.bnd h1
  refine s2 env S1 σ F1 H1 sa k1 _ (h2.mono (fun j S2 h3 w F2 H2 k2 g2 r2 => ?_) fun _ _ => Bad.of g1)
  obtain ⟨b, ys, c1, c2, c3, c4, c5, c6⟩ := ownM_at k2 q
  rw [e1] at c1
  cases c1
  have h3 : PostS B W D F (putKM i ks vs (d, j) env S2) := h3
  unfold putKM at h3
  simp only at h3
  cases qk : keyD j with
  | none => rw [qk] at h3; exact h3.elim
  | some kk =>
    rw [qk] at h3
    obtain ⟨hz, h3⟩ := postS_if h3
    obtain ⟨bk, rfl, kx⟩ := key_of k2.fh r2 qk
    refine ⟨a, bk, ys, kk, rfl, rfl, c5, ?_, ?_, Nat.lt_of_lt_of_le (Nat.lt_succ_self _) (by rw [c6.len.1]; exact szOk.le hz), ?_⟩
    · rw [← hK]; exact c6.keys k2.fh
    · rw [← hK]; exact kx
    · exact h3 σ F2 _ sa (k2.turnM q e1 (c6.put r2 qk (Rp.same g2.ff d r1))) (g1.trans g2).ff
theorem de_ixM {n : Nat} (i : Nat) {x : Str} {px : Pos} (hK : B.K = X.K) (hr : Room n X.A) (hb : DE X B W e2 fb) (hN : X.N[i]? = some x := by rfl) (hv : Vis X.env.scope x := by first | exact Or.inl rfl | exact Or.inr (Or.inl rfl) | exact Or.inr (Or.inr rfl)) (hd : (x == ("__debug__" : Str)) = false := by decide)
    (hcd : (x == ("__classdict__" : Str)) = false := by decide) (hs : NoSl e2 := by exact fun _ _ => rfl) : DE X B W (.Subscript (.Name x px) e2 pos) (eGetM i fb) := by
  obtain ⟨t2, p2, s2⟩ := hb.ex
  refine ⟨_, pe_xget hr.units (pe_var (pos := px) hN hv hd hcd) p2 hs, fun env S σ F H sa k Q h => ?_⟩
  unfold eGetM eOwnM at h
  match q : env[i]?, h with
  | none, h => exact h.elim
  | some none, h => exact h.elim
  | some (some (.d _)), h => exact h.elim
  | some (some (.l _)), h => exact h.elim
  | some (some .s), h => exact h.elim
  | some (some (.sc _)), h => exact h.elim
  | some (some (.m ks vs)), h =>
    obtain ⟨a, xs, e1, e2, e3, e4, e5, e6⟩ := ownM_at k q
    refine ⟨.ref a, e1, s2 env S σ F H sa k _ ((Post.bnd h).imp fun j S1 h1 w F1 H1 k1 g1 r1 => ?_)⟩
    obtain ⟨b, ys, c1, c2, c3, c4, c5, c6⟩ := ownM_at k1 q
    rw [e1] at c1
    cases c1
    unfold getDD at h1
    cases qk : keyD j with
    | none => rw [qk] at h1; exact h1.elim
    | some kk =>
      rw [qk] at h1
      obtain ⟨d, e, h1⟩ := post_ofO h1
      obtain ⟨bk, rfl, kx⟩ := key_of k1.fh r1 qk
      rcases c6.find kk with ⟨z1, z2⟩ | ⟨v, d', z1, z2, rv⟩
      · rw [z2] at e; cases e
      · rw [z2] at e
        cases e
        exact ⟨a, v, rfl, ⟨ys, bk, kk, .inl c5, hK ▸ c6.keys k1.fh, rfl, hK ▸ kx, z1⟩, h1 v F1 H1 k1 g1 rv⟩
theorem inM_core {i : Nat} {c : Bool} {env : Env} {S : Sr} {σ : L2.St} {F H : Hp} {sa : Option Addr} {w : V} {j : DD} {Q : VK} (k : Ok B env S σ F H sa) (r : Rp B.K F w j) (hQ : Post (Good B env σ F H sa Q) (Bad B W env σ F H sa) ((match env[i]? with
      | some (some (.m ks vs)) => inDD c ks vs j
      | _ => stk) S)) : ∃ a o, σ[i]? = some (some (.ref a)) ∧ DXG B.K H a w o ∧ Q (.bl (c != o.isSome)) H := by
  match q : env[i]?, hQ with
  | none, h => exact h.elim
  | some none, h => exact h.elim
  | some (some (.d _)), h => exact h.elim
  | some (some (.l _)), h => exact h.elim
  | some (some .s), h => exact h.elim
  | some (some (.sc _)), h => exact h.elim
  | some (some (.m ks vs)), hQ =>
    obtain ⟨a, xs, e1, e2, e3, e4, e5, e6⟩ := ownM_at k q
    unfold inDD at hQ
    cases qk : keyD j with
    | none => rw [qk] at hQ; exact hQ.elim
    | some kk =>
      rw [qk] at hQ
      obtain ⟨bk, rfl, kx⟩ := key_of k.fh r qk
      refine ⟨a, valX xs kk, e1, ⟨xs, bk, kk, .inl e5, e6.keys k.fh, rfl, kx, rfl⟩, ?_⟩
      rw [e6.isSome_eq kk]
      exact hQ _ F H k Gw.refl (.bl _)
theorem de_inM {n : Nat} (i : Nat) {x : Str} {px : Pos} (hK : B.K = X.K) (hr : Room n X.A) (hb : DE X B W e2 fb) (hN : X.N[i]? = some x := by rfl) (hv : Vis X.env.scope x := by first | exact Or.inl rfl | exact Or.inr (Or.inl rfl) | exact Or.inr (Or.inr rfl)) (hd : (x == ("__debug__" : Str)) = false := by decide)
    (hcd : (x == ("__classdict__" : Str)) = false := by decide) : DE X B W (.Compare e2 [.In] [.Name x px] pos) (eInM false i fb) := by
  obtain ⟨t2, p2, s2⟩ := hb.ex
  refine ⟨_, pe_cmp (pc_xin hr.units p2 (pe_var (pos := px) hN hv hd hcd)) rfl, fun env S σ F H sa k Q h => ?_⟩
  refine s2 env S σ F H sa k _ ((Post.bnd h).imp fun j S1 h1 w F1 H1 k1 g1 r1 => ?_)
  obtain ⟨a, o, e1, g, q⟩ := inM_core k1 r1 (Post.same g1 h1)
  exact ⟨.ref a, e1, a, o, rfl, hK ▸ g, by rw [Bool.false_bne] at q; exact q⟩
theorem de_notinM {n : Nat} (i : Nat) {x : Str} {px : Pos} (hK : B.K = X.K) (hr : Room n X.A) (hb : DE X B W e2 fb) (hN : X.N[i]? = some x := by rfl) (hv : Vis X.env.scope x := by first | exact Or.inl rfl | exact Or.inr (Or.inl rfl) | exact Or.inr (Or.inr rfl)) (hd : (x == ("__debug__" : Str)) = false := by decide)
    (hcd : (x == ("__classdict__" : Str)) = false := by decide) : DE X B W (.Compare e2 [.NotIn] [.Name x px] pos) (eInM true i fb) := by
  obtain ⟨t2, p2, s2⟩ := hb.ex
  refine ⟨_, pe_cmp (pc_xnotin hr.units p2 (pe_var (pos := px) hN hv hd hcd)) rfl, fun env S σ F H sa k Q h => ?_⟩
  refine s2 env S σ F H sa k _ ((Post.bnd h).imp fun j S1 h1 w F1 H1 k1 g1 r1 => ?_)
  obtain ⟨a, o, e1, g, q⟩ := inM_core k1 r1 (Post.same g1 h1)
  exact ⟨.ref a, e1, a, o, rfl, hK ▸ g, by rw [Bool.true_bne] at q; exact q⟩
theorem dictArg_of {F H : Hp} (e : Same F H) {vs : List V} {ps : List DD} {l : List (DD × DD)} (r : RpA B.K F vs [.lst ps]) (h : pairsD ps = some l) : ∃ prs, DictArg B.K H vs prs ∧ MpOk B.K F (putAllX [] prs) (putAllD ([], []) l).1 (putAllD ([], []) l).2 := by
  obtain ⟨v, rfl, r2⟩ := rpa1 r
  obtain ⟨a, ws, rfl, h1, h2⟩ := r2.lst_inv
  obtain ⟨ts, prs, rfl, h3, h4⟩ := pairs_of B.K h2 h
  refine ⟨prs, ⟨a, ts, rfl, SqL.of (e _ _ h1), paired_mono (fun _ _ z => sqT_same e z) h3, ?_⟩, putAll_of h4 .nil⟩
  intro x hx
  obtain ⟨i, hi⟩ := List.getElem?_of_mem hx
  obtain ⟨q, hq, q1, q2, q3⟩ := paired_at' h4 hi
  obtain ⟨b, z, kx⟩ := key_of e q1 q3
  cases z
  exact kx
theorem dm_dict {n : Nat} {e0 : Expr} {p : Pos} (hK : B.K = X.K) (hr : Room n X.A) (hc : X.calm = true) (hm : X.mg "dict" = none) (ha : DA X B W [e0] fr) (hg : Gl X "dict" := by rfl) (he : starEach [e0] X.env = (false, eval e0 X.env) :: starEach [] X.env := by rfl)
    (hpl : (backTo pos (starEach [] X.env)).any (·.1) = false := by rfl) : DM X B W (.Call (.Name "dict" p) [e0] [] pos) (mDict fr) := by
  obtain ⟨t, pp, s⟩ := ha.ex
  refine ⟨_, pe_callTy (cr_dictX hc hr.units) hg hm (by decide +kernel) pp (by decide) (by decide) he hpl, fun env S σ F H sa k Q h => s env S σ F H sa k _ ((Post.bnd h).imp fun ds S1 h1 vs F1 H1 k1 g1 r1 => ?_)⟩
  split at h1
  · rename_i ps
    cases q : pairsD ps with
    | none => rw [q] at h1; exact h1.elim
    | some l =>
      rw [q] at h1
      obtain ⟨prs, da, mp⟩ := dictArg_of (B := B) k1.fh r1 q
      refine ⟨prs, hK ▸ da, fun p hp => ?_⟩
      obtain ⟨k2, g2, fp, _, _⟩ := k1.newH hp (dxO p (putAllX [] prs))
      exact h1 p _ F1 _ k2 (g1.trans g2) (fr_new g1 hp) fp upd_same mp
  · exact h1.elim
theorem de_dict {n : Nat} {e0 : Expr} {p : Pos} (hK : B.K = X.K) (hr : Room n X.A) (hc : X.calm = true) (hm : X.mg "dict" = none) (ha : DA X B W [e0] fr) (hg : Gl X "dict" := by rfl) (he : starEach [e0] X.env = (false, eval e0 X.env) :: starEach [] X.env := by rfl)
    (hpl : (backTo pos (starEach [] X.env)).any (·.1) = false := by rfl) : DE X B W (.Call (.Name "dict" p) [e0] [] pos) (eDict fr) := by
  obtain ⟨t, pp, s⟩ := ha.ex
  refine ⟨_, pe_callTy (cr_dictF hc hr.units) hg hm (by decide +kernel) pp (by decide) (by decide) he hpl, fun env S σ F H sa k Q h => s env S σ F H sa k _ ?_⟩
  unfold eDict mDict at h
  rw [bnd_assoc] at h
  refine (Post.bnd h).imp fun ds S1 h1 vs F1 H1 k1 g1 r1 => ?_
  split at h1
  · rename_i ps
    cases q : pairsD ps with
    | none => rw [q] at h1; exact h1.elim
    | some l =>
      rw [q] at h1
      obtain ⟨prs, da, mp⟩ := dictArg_of (B := B) k1.fh r1 q
      refine ⟨prs, hK ▸ da, fun p o hp => ?_⟩
      exact h1 (.ref p) _ _ (k1.new hp (.frz o (dxO p (putAllX [] prs))) (fun ps z => by cases z)) (g1.trans (k1.gw hp _)) (.dct upd_same (RpA.same (k1.sF hp _) _ mp.k) (RpA.same (k1.sF hp _) _ mp.v) mp.e)
  · exact h1.elim
end
end AU
namespace AU
open PySem PySem.Spec PyProof.Rows L2

/-! ### a def by its body -/
def env0 (N : Nat) (its : List It) : Env := its.map some ++ List.replicate (N - its.length) none
def runB (N : Nat) (f : SF) (its : List It) : M DD := fun S => match f (env0 N its) S with
  | some (.nx _ S') => some (.ok .non, S')
  | some (.rt d S') => some (.ok d, S')
  | some (.rn ds S') => some (.ok (.lst ds), S')
  | some (.ex x _ S') => some (.error x, S')
  | _ => none
def runN (N : Nat) (f : SF) (its : List It) : M (List DD) := fun S => match f (env0 N its) S with
  | some (.rn ds S') => some (.ok ds, S')
  | some (.ex x _ S') => some (.error x, S')
  | _ => none
abbrev WD (E : XK) : WX := fun cls d _ H => E cls d H
section
variable {K : PySem.W.Frag} {cls : Nat → Value} {F H : Hp} {sa : Option Addr} {S : Sr}
theorem argsOk_get : ∀ {its : List It} {vs : List V} {i : Nat} {it : It}, ArgsOk K F sa its vs → its[i]? = some it → ∃ v, vs[i]? = some v ∧ ArgOk K F sa it v
  | _, _, i, _, .nil, h => by simp at h
  | _, _, 0, _, .cons h1 _, h => by
    simp at h
    subst h
    exact ⟨_, rfl, h1⟩
  | _, _, i + 1, _, .cons _ h2, h => by
    obtain ⟨v, e, r⟩ := argsOk_get (i := i) h2 (by simpa using h)
    exact ⟨v, by simpa using e, r⟩
/-- a def's entry -/
theorem ok_entry {N : List Str} {its : List It} {vs : List V} (fh : Same F H) (ha : ArgsOk K F sa its vs) (so : ∀ a, sa = some a → F a = none ∧ H a = some (.lst [.int S.1, .int S.2])) (ft : ∀ a ps, F a ≠ some (.tbl ps)) :
    Ok ⟨K, F, H, sa, [], cls⟩ (env0 N.length its) S (L2.start N vs) F H sa := by
  have hl := ha.length
  have notL : ∀ (i : Nat) (x : It), isOwn x = true → (env0 N.length its)[i]? ≠ some (some x) := fun i x ox e => by
    unfold env0 at e
    by_cases hi : i < its.length
    · rw [List.getElem?_append_left (by simpa using hi), List.getElem?_map] at e
      cases q : its[i]? with
      | none => rw [q] at e; cases e
      | some it =>
        rw [q] at e
        cases e
        obtain ⟨v, _, z⟩ := argsOk_get ha q
        cases x with
        | l xs => exact z
        | m ks vs => exact z
        | d x => cases ox
        | s => cases ox
        | sc ns => cases ox
    · rw [List.getElem?_append_right (by simpa using hi), List.getElem?_replicate] at e
      split at e <;> cases e
  refine ⟨Same.refl F, fh, fun a o e _ _ => e, fun a o _ _ h => h, fun p hp => (by cases hp), .inl rfl, fun a e => ⟨(so a e).1, (so a e).2, .inl e⟩, ?_, fun i it e => ?_, fun i j x y a _ h2 o2 => absurd h2 (notL i x o2), ft⟩
  · unfold env0 L2.start
    rw [List.length_append, List.length_append, List.length_map, List.length_map, List.length_replicate, List.length_replicate, hl]
  · unfold env0 at e
    by_cases hi : i < its.length
    · rw [List.getElem?_append_left (by simpa using hi), List.getElem?_map] at e
      cases q : its[i]? with
      | none => rw [q] at e; cases e
      | some it' =>
        rw [q] at e
        cases e
        obtain ⟨v, h1, h2⟩ := argsOk_get ha q
        refine ⟨v, ?_, ?_⟩
        · unfold L2.start
          rw [List.getElem?_append_left (by simpa [hl] using hi), List.getElem?_map, h1]
          rfl
        · cases it with
          | d x => exact h2
          | l xs => exact h2.elim
          | m _ _ => exact h2.elim
          | s => exact h2
          | sc ns => exact h2
    · rw [List.getElem?_append_right (by simpa using hi), List.getElem?_replicate] at e
      split at e <;> cases e
theorem ok_grw {e : Env} {S' : Sr} {σ : L2.St} {F' H' : Hp} {sa' : Option Addr} (k : Ok ⟨K, F, H, sa, [], cls⟩ e S' σ F' H' sa') : Grw sa S' F H F' H' := by
  refine ⟨k.ff, k.fh, fun a o q h => k.hh a o q h (.inl rfl), fun a h1 h2 => ?_, fun a q => ?_, k.ft⟩
  · cases q : H a with
    | none => exact absurd q h1
    | some o => exact k.nf a o q (.inl rfl) h2
  · rcases k.sa0 with z | z
    · exact (k.so a (z.trans q)).2.1
    · have z : sa = none := z
      rw [q] at z
      cases z
end
section
variable {P : Program} {w : World} {K : PySem.W.Frag} {mg : Str → Option Value} {base : Heap} {cls : Nat → Value}
/-- what is asked of a body -/
def BodyOk (P : Program) (w : World) (K : PySem.W.Frag) (mg : Str → Option Value) (base : Heap) (cls : Nat → Value) (N : List Str) (qual : Str) (st : Stmt) (f : Addr) (k : Nat) (fb : SF) : Prop :=
  ∀ (cdv : Value) (A : Around) (outer : List PySem.Env) (s : Shared) (H : Hp) (E : XK) (B : Bs), Room k (A.deeper (envOfC qual (defScope st) s.heap.objs.size f cdv)) → B.K = K → B.cls = cls → B.T = [] →
    DSs (cxOf (L2.CX P w) P w K mg base N qual (defScope st) f cdv A outer s H E) B (WD E) (defBody st) fb
theorem fnC_of {x qual : Str} {st : Stmt} {f : Addr} {fd : FuncData} {N ps : List Str} {k : Nat} {fb : SF} (F : Fun K x qual st f fd) (S : FnScope N ps (defScope st)) (hm : mg x = some (.ref f)) (hb : L2.Binds K fd ps []) (body : BodyOk P w K mg base cls N qual st f k fb) :
    FnC P w K mg base cls x ps.length (k + 1) (runB N.length fb) := by
  refine ⟨f, fd, ps, F.okX S (fun vs H Q E h => ?_) (fun cdv A outer s H vs Q E hr h => ?_), hm, F.kp, hb⟩
  · obtain ⟨_, _, _, _, e, _⟩ := h
    exact e
  · obtain ⟨F0, sa, Sr0, its, hn, fh, ha, so, ft, hp⟩ := h
    obtain ⟨t, pp, ss⟩ := (body cdv A outer s H E ⟨K, F0, H, sa, [], cls⟩ hr rfl rfl rfl).ex
    refine ⟨t, pp, ss (env0 N.length its) Sr0 _ F0 H sa (ok_entry fh ha so ft) _ ?_⟩
    unfold runB at hp
    cases q : fb (env0 N.length its) Sr0 with
    | none => rw [q] at hp; exact hp.elim
    | some o =>
      rw [q] at hp
      cases o with
      | nx e2 S2 => exact fun σ F' H' sa' k' s' => hp .non F' H' (ok_grw k') .non
      | rt d S2 => exact fun e σ v F' H' sa' k' s' r' => hp v F' H' (ok_grw k') r'
      | bk e2 S2 => exact hp.elim
      | ct e2 S2 => exact hp.elim
      | ex x e2 S2 => exact fun σ F' H' sa' k' s' => hp F' H' (ok_grw k')
      | rn ds S2 => exact fun e σ p ws F' H' sa' k' s' h1 h2 h3 h4 h5 h6 => (let ⟨sF, k2⟩ := k'.lay h4 h1 h2 h3 h6; hp (.ref p) _ H' (ok_grw k2) (.lst upd_same (RpA.same sF ds h5)))
/-- a def that gives out a new list of its own -/
def spN (K : PySem.W.Frag) (cls : Nat → Value) (n : Nat) (fn : List It → M (List DD)) : Sp := fun vs H Q E => ∃ F sa S its, vs.length = n ∧ Same F H ∧ ArgsOk K F sa its vs ∧ (∀ a, sa = some a → F a = none ∧ H a = some (.lst [.int S.1, .int S.2])) ∧ (∀ a ps, F a ≠ some (.tbl ps)) ∧
  Post (fun ds S' => ∀ p ws F' H', Grw sa S' F H F' H' → H p = none → F' p = none → H' p = some (.lst ws) → RpA K F' ws ds → Q (.ref p) H') (fun e S' => ∀ F' H', Grw sa S' F H F' H' → ExE K cls E e F' H') (fn its S)
structure FnN (P : Program) (w : World) (K : PySem.W.Frag) (mg : Str → Option Value) (base : Heap) (cls : Nat → Value) (x : Str) (n k : Nat) (fn : List It → M (List DD)) : Prop where
  ex : ∃ f fd ps, FnOk P w K mg base (L2.CX P w) k f fd ps (spN K cls n fn) ∧ mg x = some (.ref f) ∧ PySem.W.keepIn K (.ref f) = true ∧ L2.Binds K fd ps []
theorem FnN.mono {x : Str} {n k k' : Nat} {fn : List It → M (List DD)} (h : FnN P w K mg base cls x n k fn) (hk : k ≤ k') : FnN P w K mg base cls x n k' fn := by
  obtain ⟨f, fd, ps, F, r⟩ := h.ex
  exact ⟨f, fd, ps, F.mono hk, r⟩
theorem fnN_of {x qual : Str} {st : Stmt} {f : Addr} {fd : FuncData} {N ps : List Str} {k : Nat} {fb : SF} (F : Fun K x qual st f fd) (S : FnScope N ps (defScope st)) (hm : mg x = some (.ref f)) (hb : L2.Binds K fd ps []) (body : BodyOk P w K mg base cls N qual st f k fb) :
    FnN P w K mg base cls x ps.length (k + 1) (runN N.length fb) := by
  refine ⟨f, fd, ps, F.okX S (fun vs H Q E h => ?_) (fun cdv A outer s H vs Q E hr h => ?_), hm, F.kp, hb⟩
  · obtain ⟨_, _, _, _, e, _⟩ := h
    exact e
  · obtain ⟨F0, sa, Sr0, its, hn, fh, ha, so, ft, hp⟩ := h
    obtain ⟨t, pp, ss⟩ := (body cdv A outer s H E ⟨K, F0, H, sa, [], cls⟩ hr rfl rfl rfl).ex
    refine ⟨t, pp, ss (env0 N.length its) Sr0 _ F0 H sa (ok_entry fh ha so ft) _ ?_⟩
    unfold runN at hp
    cases q : fb (env0 N.length its) Sr0 with
    | none => rw [q] at hp; exact hp.elim
    | some o =>
      rw [q] at hp
      cases o with
      | nx e2 S2 => exact hp.elim
      | rt d S2 => exact hp.elim
      | bk e2 S2 => exact hp.elim
      | ct e2 S2 => exact hp.elim
      | ex x e2 S2 => exact fun σ F' H' sa' k' s' => hp F' H' (ok_grw k')
      | rn ds S2 =>
        intro e σ p ws F' H' sa' k' s' h1 h2 h3 h4 h5 h6
        refine hp p ws F' H' (ok_grw k') ?_ h1 h4 h5
        cases q2 : H p with
        | none => rfl
        | some o => exact absurd (.inl rfl) (h2 o q2)
end

/-! ### the source, the script -/
def sRetNew (f : Env → M (List DD)) : SF := thenS f fun ds _ S => some (.rn ds S)
def eSrc (i : Nat) (j : Bool) : Env → M DD := fun env S => match env[i]? with
  | some (some .s) => some (.ok (.int (if j = true then S.2 else S.1)), S)
  | _ => none
def sSrcPut (i : Nat) (j : Bool) (f : Env → M DD) : SF := thenS f fun d env S => match env[i]?, d with
  | some (some .s), .int z => some (.nx env (if j = true then (S.1, z) else (z, S.2)))
  | _, _ => none
def eScAt (i : Nat) (g : Env → M DD) : Env → M DD := fun env => match env[i]? with
  | some (some (.sc ns)) => bnd (g env) fun d => match d with
    | .int z => ofO ((atI ns z).map DD.int)
    | _ => stk
  | _ => stk
def eScLen (i : Nat) : Env → M DD := fun env => match env[i]? with
  | some (some (.sc ns)) => ret (.int ns.length)
  | _ => stk
section
variable {B : Bs} {W : WX} {X : Cx} {e e2 : Expr} {es : List Expr} {fn : Env → M (List DD)} {fa fb : Env → M DD} {pos px p : Pos} {x : Str}
theorem ds_retNew (he : DN X B W e fn) : DS X B W (.Return (some e) pos) (sRetNew fn) := by
  obtain ⟨t, p, s⟩ := he.ex
  exact ⟨_, ps_ret p, fun env S σ F H sa k D h => s env S σ F H sa k _ ((post_exp k h).imp fun ds S1 h1 p ws F1 H1 k1 g1 hp fp hp1 r1 =>
    (let ⟨b0, hs', hd⟩ := k.fresh hp; h1 env σ p ws F1 H1 sa k1 g1.ff fp b0 hs' hp1 r1 hd))⟩
theorem src_inv {i : Nat} {j : Bool} {env : Env} {S : Sr} {good : DD → Sr → Prop} {bad : Ex → Sr → Prop} (h : Post good bad (eSrc i j env S)) : env[i]? = some (some .s) ∧ good (.int (if j = true then S.2 else S.1)) S := by
  unfold eSrc at h
  cases q : env[i]? with
  | none => rw [q] at h; exact h.elim
  | some o =>
    cases o with
    | none => rw [q] at h; exact h.elim
    | some it =>
      cases it with
      | s => rw [q] at h; exact ⟨rfl, h⟩
      | l xs => rw [q] at h; exact h.elim
      | m _ _ => rw [q] at h; exact h.elim
      | d x => rw [q] at h; exact h.elim
      | sc ns => rw [q] at h; exact h.elim
theorem de_src (i : Nat) (j : Bool) {c : Int} {kk : Nat} {pc : Pos} (hc : c = if j = true then 1 else 0) (hN : X.N[i]? = some x := by rfl) (hv : Vis X.env.scope x := by first | exact Or.inl rfl | exact Or.inr (Or.inl rfl) | exact Or.inr (Or.inr rfl)) (hd : (x == ("__debug__" : Str)) = false := by decide)
    (hcd : (x == ("__classdict__" : Str)) = false := by decide) : DE X B W (.Subscript (.Name x px) (.Constant (.int c) kk pc) pos) (eSrc i j) := by
  refine ⟨_, pe_ix ix_seq (pe_var hN hv hd hcd) pe_int (fun _ _ => rfl), fun env S σ F H sa k Q h => ?_⟩
  obtain ⟨q, h⟩ := src_inv h
  obtain ⟨v, h1, a, rfl, e2⟩ := k.sl i _ q
  obtain ⟨e3, e4, _⟩ := k.so a e2
  refine ⟨.ref a, h1, .inl ⟨a, [.int S.1, .int S.2], c, .int (if j = true then S.2 else S.1), rfl, rfl, SqL.of e4, ?_, h _ F H k Gw.refl (.int _)⟩⟩
  subst hc
  cases j <;> rfl
theorem ds_srcPut (i : Nat) (j : Bool) {c : Int} {kk : Nat} {pc ps : Pos} (hc : c = if j = true then 1 else 0) (ha : DE X B W e fa) (hN : X.N[i]? = some x := by rfl) (hv : Vis X.env.scope x := by first | exact Or.inl rfl | exact Or.inr (Or.inl rfl) | exact Or.inr (Or.inr rfl)) (hd : (x == ("__debug__" : Str)) = false := by decide)
    (hcd : (x == ("__classdict__" : Str)) = false := by decide) (hasg : ∀ v, assign (.Subscript (.Name x px) (.Constant (.int c) kk pc) ps) X.env v = (do
      let ov ← holding [v] (eval (.Name x px) X.env)
      let iv ← holding [v, ov] (eval (.Constant (.int c) kk pc) X.env)
      standAt ps
      holding [v, ov, iv] (setItem ov iv v)
      release [v, ov, iv] []) := by intro _; rfl)
    (hs : swapsWithSole [.Subscript (.Name x px) (.Constant (.int c) kk pc) ps] e pos.line X.env = pure false := by rfl) (hw : swappedStores [.Subscript (.Name x px) (.Constant (.int c) kk pc) ps] e X.env = pure none := by rfl)
    (h1 : (assignEach [.Subscript (.Name x px) (.Constant (.int c) kk pc) ps] X.env).map (·.2) = [assign (.Subscript (.Name x px) (.Constant (.int c) kk pc) ps) X.env] := by rfl) : DS X B W (.Assign [.Subscript (.Name x px) (.Constant (.int c) kk pc) ps] e pos) (sSrcPut i j fa) := by
  obtain ⟨t, p, s⟩ := ha.ex
  refine ⟨_, ps_asg p (pg_sub (pe_var hN hv hd hcd) pe_int set_list hasg) hs hw h1, fun env S σ F H sa k D h => ?_⟩
  refine s env S σ F H sa k _ ((post_exp k h).imp fun d S1 h1 v F1 H1 k1 g1 r1 => ?_)
  cases q : env[i]? with
  | none => rw [q] at h1; exact h1.elim
  | some o =>
    cases o with
    | none => rw [q] at h1; exact h1.elim
    | some it =>
      cases it with
      | s =>
        rw [q] at h1
        cases d with
        | int z =>
          cases r1.int_inv
          obtain ⟨v, hv1, a, rfl, e2⟩ := k1.sl i _ q
          obtain ⟨e3, e4, _⟩ := k1.so a e2
          refine ⟨.ref a, hv1, a, [.int S1.1, .int S1.2], c, (if j = true then 1 else 0), rfl, rfl, e4, ?_, ?_⟩
          · subst hc
            cases j <;> rfl
          · have ee : ([V.int S1.1, V.int S1.2] : List V).set (if j = true then 1 else 0) (.int z) = [.int (if j = true then (S1.1, z) else (z, S1.2)).1, .int (if j = true then (S1.1, z) else (z, S1.2)).2] := by
              cases j <;> rfl
            rw [ee]
            obtain ⟨k2, g2⟩ := k1.grow (S' := if j = true then (S1.1, z) else (z, S1.2)) (F' := F1) (H' := upd H1 a (.lst [.int (if j = true then (S1.1, z) else (z, S1.2)).1, .int (if j = true then (S1.1, z) else (z, S1.2)).2])) (Same.refl _)
              (fun b u eu => by rw [upd_ne (ne_of_none eu e3)]; exact k1.fh _ _ eu) (fun b o eo hb => by rw [upd_ne (fun zz : b = a => hb (zz ▸ e2))]; exact eo) (fun b _ hb => hb) (fun b hb => by
                rw [e2] at hb
                cases hb
                exact upd_same) k1.ft
            exact h1 σ F1 _ sa k2 g1.ff
        | _ => exact h1.elim
      | l xs => rw [q] at h1; exact h1.elim
      | m _ _ => rw [q] at h1; exact h1.elim
      | d x => rw [q] at h1; exact h1.elim
      | sc ns => rw [q] at h1; exact h1.elim
theorem de_scAt (i : Nat) (hK : B.K = X.K) (hb : DE X B W e2 fb) (hN : X.N[i]? = some x := by rfl) (hv : Vis X.env.scope x := by first | exact Or.inl rfl | exact Or.inr (Or.inl rfl) | exact Or.inr (Or.inr rfl)) (hd : (x == ("__debug__" : Str)) = false := by decide)
    (hcd : (x == ("__classdict__" : Str)) = false := by decide) (hs : PlainIx e2 := by exact fun _ _ => rfl) : DE X B W (.Subscript (.Name x px) e2 pos) (eScAt i fb) := by
  obtain ⟨t2, p2, s2⟩ := hb.ex
  refine ⟨_, pe_ix ix_seq (pe_var hN hv hd hcd) p2 hs, fun env S σ F H sa k Q h => ?_⟩
  unfold eScAt at h
  cases q : env[i]? with
  | none => rw [q] at h; exact h.elim
  | some o =>
    cases o with
    | none => rw [q] at h; exact h.elim
    | some it =>
      cases it with
      | sc ns =>
        rw [q] at h
        obtain ⟨v, h1, a, rfl, e2⟩ := k.sl i _ q
        refine ⟨.ref a, h1, s2 env S σ F H sa k _ ((Post.bnd h).imp fun d S1 h2 w F1 H1 k1 g1 r1 => ?_)⟩
        cases d with
        | int z =>
          cases r1.int_inv
          obtain ⟨y, hy, h2⟩ := post_ofO h2
          cases e : L2.atI ns z with
          | none => rw [e] at hy; cases hy
          | some n =>
            rw [e] at hy
            cases hy
            have e2' := Same.seq (g1.ff.trans k1.fh) e2
            rw [hK] at e2'
            refine .inl ⟨a, ns.map V.int, z, .int n, rfl, rfl, e2', ?_, h2 _ F1 H1 k1 g1 (.int _)⟩
            unfold L2.atI at e ⊢
            rw [List.length_map]
            cases e3 : ixN ns.length z with
            | none => rw [e3] at e; cases e
            | some jj =>
              rw [e3] at e
              show (ns.map V.int)[jj]? = some (.int n)
              have e : ns[jj]? = some n := e
              rw [List.getElem?_map, e]
              rfl
        | _ => exact h2.elim
      | l xs => rw [q] at h; exact h.elim
      | m _ _ => rw [q] at h; exact h.elim
      | d x => rw [q] at h; exact h.elim
      | s => rw [q] at h; exact h.elim
theorem de_scLen (i : Nat) (hK : B.K = X.K) (hm : X.mg "len" = none) (hN : X.N[i]? = some x := by rfl) (hv : Vis X.env.scope x := by first | exact Or.inl rfl | exact Or.inr (Or.inl rfl) | exact Or.inr (Or.inr rfl)) (hd : (x == ("__debug__" : Str)) = false := by decide)
    (hcd : (x == ("__classdict__" : Str)) = false := by decide) (hg : Gl X "len" := by rfl) (he : starEach [.Name x px] X.env = (false, eval (.Name x px) X.env) :: starEach [] X.env := by rfl) (hpl : (backTo pos (starEach [] X.env)).any (·.1) = false := by rfl) :
    DE X B W (.Call (.Name "len" p) [.Name x px] [] pos) (eScLen i) := by
  refine ⟨_, pe_callB call_len hg hm PySem.boot_len (pa_cons (pe_var (pos := px) hN hv hd hcd) pa_nil he) (by decide) (by decide) he hpl, fun env S σ F H sa k Q h => ?_⟩
  unfold eScLen at h
  cases q : env[i]? with
  | none => rw [q] at h; exact h.elim
  | some o =>
    cases o with
    | none => rw [q] at h; exact h.elim
    | some it =>
      cases it with
      | sc ns =>
        rw [q] at h
        obtain ⟨v, h1, a, rfl, e2⟩ := k.sl i _ q
        have e2' := Same.seq k.fh e2
        rw [hK] at e2'
        exact ⟨.ref a, h1, _, ns.length, rfl, .inl ⟨_, e2', by rw [List.length_map]⟩, h _ F H k Gw.refl (.int _)⟩
      | l xs => rw [q] at h; exact h.elim
      | m _ _ => rw [q] at h; exact h.elim
      | d x => rw [q] at h; exact h.elim
      | s => rw [q] at h; exact h.elim
end
end AU
namespace AU
open PySem PySem.Spec PyProof.Rows L2

/-! ### in, not in; is of truths -/
def memD (x : DD) (ds : List DD) : Bool := (DD.pyA ds).any fun z => PyData.eqv z x.py
def inG (b : Bool) (x y : DD) : M DD := match y with
  | .lst ds => if (eqOk x && eqOk y) = true then ret (.bl (b != memD x ds)) else stk
  | .tup ds => if (eqOk x && eqOk y) = true then ret (.bl (b != memD x ds)) else stk
  | .dct ks vs => inDD b ks vs x
  | _ => stk
def rInX (K : PySem.W.Frag) (b : Bool) : R2 := fun x y H Q => ∃ a o, y = .ref a ∧ DXG K H a x o ∧ Q (.bl (b != o.isSome)) H
def opIn : DD → DD → M DD := inG false
def opNotIn : DD → DD → M DD := inG true
def rInT (K : PySem.W.Frag) (b : Bool) : R2 := fun x y H Q => ∃ d ds, Dp K H x d ∧ (Dp K H y (.list ds) ∧ SeqAt.shaped (.list ds) = true ∨ Dp K H y (.tuple ds) ∧ SeqAt.shaped (.tuple ds) = true) ∧ SeqAt.shaped d = true ∧ Q (.bl (b != ds.any fun z => PyData.eqv z d)) H
section
variable {B : Bs} {W : WX} {X : Cx} {a b e : Expr} {fa fb : Env → M DD} {pos : Pos}
theorem shaped_lt {ds : List PyData} (h : SeqAt.shaped (.tuple ds) = true) : SeqAt.shaped (.list ds) = true := h
theorem or_in (hu : X.A.units + 65 < cLine) : OpR X (compareOp .In) (rInT X.K false) := by
  intro pins s σ H x y v u Q I rx ry h
  obtain ⟨d, ds, hd, he, sd, q⟩ := h
  rw [Bool.false_bne] at q
  obtain ⟨as, r1⟩ := Dp.reads I d x v hd rx
  rcases he with ⟨he, se⟩ | ⟨he, se⟩
  · obtain ⟨bs, r2⟩ := Dp.reads I (.list ds) y u he ry
    exact SeqAt.in_list_reads r2 r1 (SeqAt.canLay_of_shaped se) (SeqAt.canLay_of_shaped sd) (room_in_shaped sd hu) ⟨.bl _, H, I, rfl, q⟩
  · obtain ⟨bs, r2⟩ := Dp.reads I (.tuple ds) y u he ry
    exact SeqAt.in_tuple_reads r2 r1 (SeqAt.canLay_of_shaped (shaped_lt se)) (SeqAt.canLay_of_shaped sd) (room_in_shaped sd hu) ⟨.bl _, H, I, rfl, q⟩
theorem or_notin (hu : X.A.units + 65 < cLine) : OpR X (compareOp .NotIn) (rInT X.K true) := by
  intro pins s σ H x y v u Q I rx ry h
  obtain ⟨d, ds, hd, he, sd, q⟩ := h
  rw [Bool.true_bne] at q
  obtain ⟨as, r1⟩ := Dp.reads I d x v hd rx
  rcases he with ⟨he, se⟩ | ⟨he, se⟩
  · obtain ⟨bs, r2⟩ := Dp.reads I (.list ds) y u he ry
    exact SeqAt.notIn_list_reads r2 r1 (SeqAt.canLay_of_shaped se) (SeqAt.canLay_of_shaped sd) (room_in_shaped sd hu) ⟨.bl _, H, I, rfl, q⟩
  · obtain ⟨bs, r2⟩ := Dp.reads I (.tuple ds) y u he ry
    exact SeqAt.notIn_tuple_reads r2 r1 (SeqAt.canLay_of_shaped (shaped_lt se)) (SeqAt.canLay_of_shaped sd) (room_in_shaped sd hu) ⟨.bl _, H, I, rfl, q⟩
theorem or_inX (hu : X.A.units + 64 < cLine) : OpR X (compareOp .In) (rInX X.K false) := by
  intro pins s σ H x y v u Q I rx ry h
  obtain ⟨a, o, rfl, g, q⟩ := h
  cases ry
  rw [Bool.false_bne] at q
  exact dx_in hu I g rx fun s3 I3 => ⟨.bl o.isSome, H, I3, rfl, q⟩
theorem or_notinX (hu : X.A.units + 64 < cLine) : OpR X (compareOp .NotIn) (rInX X.K true) := by
  intro pins s σ H x y v u Q I rx ry h
  obtain ⟨a, o, rfl, g, q⟩ := h
  cases ry
  rw [Bool.true_bne] at q
  exact dx_notIn hu I g rx fun s3 I3 => ⟨.bl (!o.isSome), H, I3, rfl, q⟩
def rInA (K : PySem.W.Frag) (b : Bool) : R2 := fun x y H Q => rInT K b x y H Q ∨ rInX K b x y H Q
theorem snd_in {c : Bool} : OpSnd B W (rInA B.K c) (inG c) := by
  intro env S σ F H sa v w x y k rx ry Q h
  have key : ∀ ds, (y = .lst ds ∨ y = .tup ds) → Post (Good B env σ F H sa Q) (Bad B W env σ F H sa) ((if (eqOk x && eqOk y) = true then ret (.bl (c != memD x ds)) else stk) S) → rInT B.K c v w H Q := fun ds hy h => by
    by_cases g : (eqOk x && eqOk y) = true
    · rw [if_pos g] at h
      obtain ⟨g1, g2⟩ := Bool.and_eq_true_iff.mp g
      obtain ⟨p1, s1⟩ := Bool.and_eq_true_iff.mp (show (x.pure && SeqAt.shaped x.py) = true from g1)
      obtain ⟨p2, s2⟩ := Bool.and_eq_true_iff.mp (show (y.pure && SeqAt.shaped y.py) = true from g2)
      have d1 : Dp B.K H v x.py := Rp.dp x p1 (Rp.same k.fh x rx)
      have d2 : Dp B.K H w y.py := Rp.dp y p2 (Rp.same k.fh y ry)
      refine ⟨x.py, DD.pyA ds, d1, ?_, s1, h _ F H k Gw.refl (.bl _)⟩
      rcases hy with rfl | rfl
      · exact .inl ⟨d2, s2⟩
      · exact .inr ⟨d2, s2⟩
    · rw [if_neg g] at h
      exact h.elim
  cases y with
  | lst ds => exact .inl (key ds (.inl rfl) h)
  | tup ds => exact .inl (key ds (.inr rfl) h)
  | dct ks vs =>
    obtain ⟨a, o, xs, rfl, h1, h2, h3, h4⟩ := ry.dct_inv
    have h : Post (Good B env σ F H sa Q) (Bad B W env σ F H sa) (inDD c ks vs x S) := h
    unfold inDD at h
    cases q : keyD x with
    | none => rw [q] at h; exact h.elim
    | some kk =>
      rw [q] at h
      simp only at h
      rcases dxg_of k.fh h1 ⟨h2, h3, h4⟩ rx q with ⟨e1, g⟩ | ⟨z, d', e1, g, rz⟩
      · rw [e1] at h
        exact .inr ⟨a, none, rfl, g, h _ F H k Gw.refl (.bl _)⟩
      · rw [e1] at h
        exact .inr ⟨a, some z, rfl, g, h _ F H k Gw.refl (.bl _)⟩
  | _ => exact h.elim
theorem de_in {n : Nat} (hK : B.K = X.K) (hr : Room n X.A) (ha : DE X B W a fa) (hb : DE X B W b fb) (hm : behindInMarks .In b = false := by rfl) : DE X B W (.Compare a [.In] [b] pos) (eOp opIn fa fb) := de_cmp (OpR.or (or_in (by have := hr.un; omega)) (or_inX hr.units)) (hK ▸ snd_in) ha hb hm
theorem de_notin {n : Nat} (hK : B.K = X.K) (hr : Room n X.A) (ha : DE X B W a fa) (hb : DE X B W b fb) (hm : behindInMarks .NotIn b = false := by rfl) : DE X B W (.Compare a [.NotIn] [b] pos) (eOp opNotIn fa fb) := de_cmp (OpR.or (or_notin (by have := hr.un; omega)) (or_notinX hr.units)) (hK ▸ snd_in) ha hb hm
def opIsB : DD → DD → M DD
  | .bl x, .bl y => ret (.bl (decide (x = y)))
  | _, _ => stk
def opIsNotB : DD → DD → M DD
  | .bl x, .bl y => ret (.bl (!decide (x = y)))
  | _, _ => stk
theorem de_isB (ha : DE X B W a fa) (hb : DE X B W b fb) : DE X B W (.Compare a [.Is] [b] pos) (eOp opIsB fa fb) := de_cmp op_is_bl (fun env S σ F H sa v w x y k rx ry Q h => by
  cases x <;> cases y <;> first | exact h.elim | skip
  cases rx.bl_inv
  cases ry.bl_inv
  exact ⟨_, _, rfl, rfl, h _ F H k Gw.refl (.bl _)⟩) ha hb (nomark _)
theorem de_isnotB (ha : DE X B W a fa) (hb : DE X B W b fb) : DE X B W (.Compare a [.IsNot] [b] pos) (eOp opIsNotB fa fb) := de_cmp op_isnot_bl (fun env S σ F H sa v w x y k rx ry Q h => by
  cases x <;> cases y <;> first | exact h.elim | skip
  cases rx.bl_inv
  cases ry.bl_inv
  exact ⟨_, _, rfl, rfl, h _ F H k Gw.refl (.bl _)⟩) ha hb (nomark _)
end

/-! ### a new list by a call; the source anew -/
def nCall (fn : List It → M (List DD)) (as : Env → M (List It)) : Env → M (List DD) := fun env => bnd (as env) fun its => fun S => match its.any isS with
  | true => none
  | false => match fn its (0, 0) with
    | none => none
    | some (r, _) => some (r, S)
def noS (env : Env) : Bool := env.all fun o => match o with
  | some .s => false
  | _ => true
def sSrcNew (i : Nat) (fn : Env → M (List DD)) : SF := thenS fn fun ds env S => match ds with
  | [.int a, .int b] => if noS (env.set i none) = true then some (.nx (env.set i (some .s)) (a, b)) else none
  | _ => none
section
variable {B : Bs} {W : WX} {X : Cx} {e : Expr} {es : List Expr} {fr : Env → M (List It)} {fn : Env → M (List DD)} {pos : Pos}
theorem dn_call {x : Str} {p : Pos} {n kk m : Nat} {fn : List It → M (List DD)} (Fc : FnN X.prog X.w X.K X.mg X.base B.cls x n kk fn) (hr : Room m X.A) (hkm : kk ≤ m) (hK : B.K = X.K) (tk : Takes X W) (ha : DI X B W (e :: es) fr) (hn : (e :: es).length = n := by rfl)
    (hg : Gl X x := by rfl) (hdb : (x == ("__debug__" : Str)) = false := by decide) (he : starEach (e :: es) X.env = (false, eval e X.env) :: starEach es X.env := by rfl) (hpl : (backTo pos (starEach es X.env)).any (·.1) = false := by rfl) :
    DN X B W (.Call (.Name x p) (e :: es) [] pos) (nCall fn fr) := by
  obtain ⟨f, fd, ps, F, hm, hk, hb⟩ := Fc.ex
  obtain ⟨ta, pa, sa, la⟩ := ha.ex
  refine ⟨_, pe_callS F (hr.mono hkm) hg hm hk hb (fun σ => passAt tk σ) pa hdb he hpl, fun env S σ F H sa' k Q h => ?_⟩
  have h2 := Post.bnd h
  refine sa env S σ F H sa' k _ ?_
  cases q : fr env S with
  | none => rw [q] at h2; exact h2.elim
  | some pr =>
    obtain ⟨r, S1⟩ := pr
    rw [q] at h2
    cases r with
    | error x => exact h2
    | ok its =>
      intro vs F1 H1 k1 s1 r1
      have h2 : Post (GoodN B env σ F H sa' Q) (Bad B W env σ F H sa') (match its.any isS with
        | true => none
        | false => match fn its (0, 0) with
          | none => none
          | some (r, _) => some (r, S1)) := h2
      cases hS : its.any isS with
      | true =>
        rw [hS] at h2
        exact h2.elim
      | false =>
        rw [hS] at h2
        simp only at h2
        cases e0 : fn its (0, 0) with
        | none => rw [e0] at h2; exact h2.elim
        | some p =>
          obtain ⟨r, S0⟩ := p
          rw [e0] at h2
          refine ⟨F1, none, (0, 0), its, by rw [r1.length, ← hn]; exact la env S its S1 q, k1.fh, by rw [← hK]; exact r1.pure hS, (fun a e => by cases e), k1.ft, ?_⟩
          rw [e0]
          have gr : ∀ F' H', Grw none S0 F1 H1 F' H' → Ok B env S1 σ F' H' sa' ∧ Gw B sa' F1 H1 F' H' := fun F' H' w =>
            k1.grow w.ff w.fh (fun a o q _ => w.kp a o q (fun z => by cases z)) w.nf (fun a q => w.kp a _ (k1.so a q).2.1 fun z => by cases z) w.ft
          cases r with
          | ok ds => exact fun p ws F' H' w h1 h3 h4 h5 => h2 p ws F' H' (gr F' H' w).1 (s1.trans (gr F' H' w).2) (fun o eo ho => (let ⟨o', e', _⟩ := s1.hh p o eo ho; by rw [h1] at e'; cases e')) h3 h4 (by rw [hK]; exact h5)
          | error x => exact fun F' H' w => (let z := h2 F' H' (gr F' H' w).1 (s1.trans (gr F' H' w).2); by rw [← hK]; exact z)
theorem noS_at {env : Env} {i j : Nat} (h : noS (env.set i none) = true) (e : env[j]? = some (some .s)) : j = i := by
  apply Classical.byContradiction
  intro n
  have e2 : (env.set i none)[j]? = some (some .s) := by rw [List.getElem?_set_ne (Ne.symm n)]; exact e
  have z := List.all_eq_true.mp h _ (List.mem_of_getElem? e2)
  cases z
theorem ds_srcNew (i : Nat) {x : Str} {px : Pos} (h0 : B.sa0 = none) (hN : X.N.Nodup) (he : DN X B W e fn) (hi : X.N[i]? = some x := by rfl) (hx : Loc X.env.scope x := by first | exact Or.inl rfl | exact Or.inr rfl) (hf : X.fn x = true ∨ X.env.scope.names.lookup x = some .local := by first | exact .inl rfl | exact .inr rfl)
    (hs : swapsWithSole [.Name x px] e pos.line X.env = pure false := by rfl) (hw : swappedStores [.Name x px] e X.env = pure none := by rfl)
    (h1 : (assignEach [.Name x px] X.env).map (·.2) = [assign (.Name x px) X.env] := by rfl) : DS X B W (.Assign [.Name x px] e pos) (sSrcNew i fn) := by
  obtain ⟨t, p, s⟩ := he.ex
  refine ⟨_, ps_asg p (pg_name hN hi hx hf) hs hw h1, fun env S σ F H sa k D h => s env S σ F H sa k _ ((post_exp k h).imp fun ds S1 h1 p ws F1 H1 k1 g1 hp fp hp1 r1 => ?_)⟩
  obtain ⟨b0, hs', hd⟩ := k.fresh hp
  match ds, h1, r1 with
  | [.int a, .int b], h1, r1 =>
    cases r1 with
    | cons ra r1 =>
      cases r1 with
      | cons rb r1 =>
        cases r1
        cases ra.int_inv
        cases rb.int_inv
        have h1 : PostS B W D F (if noS (env.set i none) = true then some (.nx (env.set i (some .s)) (a, b)) else none) := h1
        by_cases g : noS (env.set i none) = true
        · rw [if_pos g] at h1
          refine h1 _ F1 H1 (some p) ⟨k1.ff, k1.fh, fun c o e1 _ e3 => k1.hh c o e1 (by rw [h0]; exact fun z => by cases z) e3, k1.nf, k1.tb, .inr h0, fun c e1 => (by cases e1; exact ⟨fp, hp1, .inr b0⟩), (by rw [List.length_set, List.length_set]; exact k1.len), fun j it ej => ?_, fun j1 j2 xx yy c hj e1 o1 e2 o2 h3 => ?_, k1.ft⟩ g1.ff
          · rcases get_set ej with ⟨rfl, z, hl⟩ | ⟨ne, e2⟩
            · cases z
              exact ⟨.ref p, by rw [List.getElem?_set_self (by rw [← k1.len]; exact hl)], p, rfl, rfl⟩
            · obtain ⟨v, h4, h5⟩ := k1.sl j it e2
              refine ⟨v, by rw [List.getElem?_set_ne ne]; exact h4, ?_⟩
              cases it with
              | d y => exact h5
              | l ys =>
                obtain ⟨c, vs, q1, q2, q3, q4, q5, q6⟩ := h5
                subst q1
                refine ⟨c, vs, rfl, q2, q3, fun z => ?_, q5, q6⟩
                cases z
                exact hd j _ e2 rfl h4
              | m ks ws =>
                obtain ⟨c, vs, q1, q2, q3, q4, q5, q6⟩ := h5
                subst q1
                refine ⟨c, vs, rfl, q2, q3, fun z => ?_, q5, q6⟩
                cases z
                exact hd j _ e2 rfl h4
              | s => exact absurd (noS_at g e2).symm ne
              | sc ns => exact h5
          · rcases get_set e1 with ⟨_, z, _⟩ | ⟨n1, e1⟩
            · cases z
              cases o1
            · rcases get_set e2 with ⟨_, z, _⟩ | ⟨n2, e2⟩
              · cases z
                cases o2
              · rw [List.getElem?_set_ne n1] at h3
                rw [List.getElem?_set_ne n2]
                exact k1.dj j1 j2 xx yy c hj e1 o1 e2 o2 h3
        · rw [if_neg g] at h1
          exact h1.elim
end
end AU
namespace AU
open PySem PySem.Spec PyProof.Rows L2

/-! ### try with clauses -/
def tSOf (B : Bs) (W : WX) (f : SF) : TS := fun D σ H => ∃ env S F sa, Ok B env S σ F H sa ∧ PostS B W D F (f env S)
theorem DSs.pss {X : Cx} {B : Bs} {W : WX} {ss : List Stmt} {f : SF} (h : DSs X B W ss f) : PSs X ss (tSOf B W f) := by
  obtain ⟨t, p, s⟩ := h.ex
  exact ⟨fun pins st σ H D I ⟨env, S, F, sa, k, q⟩ => p.run pins st σ H D I (s env S σ F H sa k D q)⟩
theorem DS.ps {X : Cx} {B : Bs} {W : WX} {s : Stmt} {f : SF} (h : DS X B W s f) : PS X s (tSOf B W f) := by
  obtain ⟨t, p, s⟩ := h.ex
  exact ⟨fun pins st σ H D I ⟨env, S, F, sa, k, q⟩ => p.run pins st σ H D I (s env S σ F H sa k D q)⟩
def noEx : Option Out → Option Out
  | some (.ex _ _ _) => none
  | o => o
def sTry (nx : Nat) (fb : SF) (cl : List (Nat × SF)) : SF := fun env S => match fb env S with
  | some (.ex x e S') => if x.k < nx then (match cl.lookup x.k with
    | some h => noEx (h e S')
    | none => some (.ex x e S')) else none
  | o => o
theorem postS_noEx {B : Bs} {W W' : WX} {D : Ends} {F : Hp} : ∀ {o : Option Out}, PostS B W D F (noEx o) → PostS B W' D F o
  | none, h => h
  | some (.nx _ _), h => h
  | some (.bk _ _), h => h
  | some (.ct _ _), h => h
  | some (.rt _ _), h => h
  | some (.ex _ _ _), h => h.elim
  | some (.rn _ _), h => h
/-- which class matches which -/
def ExmA (K : PySem.W.Frag) (cls : Nat → Value) (nx : Nat) : Prop := ∀ k k', k < nx → k' < nx → PySem.W.exmOne K (cls k) (cls k') = some (decide (k = k'))
inductive HdsD (X : Cx) (B : Bs) (nx : Nat) : List ExceptHandler → List (Nat × SF) → Prop
  | nil : HdsD X B nx [] []
  | cons {x : Str} {k : Nat} {h : SF} {b₀ : Stmt} {suite : List Stmt} {np pos' : Pos} {hds : List ExceptHandler} {l : List (Nat × SF)} (hk : k < nx) (hc : Names X x (B.cls k))
      (hsu : ∀ (a : Addr) (oe : Obj) (pn : List (Addr × Obj)), DSs (X.suite a ((a, oe) :: pn)) B W0 (b₀ :: suite) h) (r : HdsD X B nx hds l) :
      HdsD X B nx (.ExceptHandler (some (.Name x np)) none (b₀ :: suite) pos' :: hds) ((k, h) :: l)
def clOf (B : Bs) (l : List (Nat × SF)) : List (Value × (Addr → Value → Option Addr → TS)) := l.map fun q => (B.cls q.1, fun _ _ _ => tSOf B W0 q.2)
section
variable {B : Bs} {W : WX} {X : Cx} {nx : Nat} {hds : List ExceptHandler} {h₀ : ExceptHandler} {cl : List (Nat × SF)} {body : List Stmt} {fb : SF} {pos : Pos}
theorem HdsD.ok (h : HdsD X B nx hds cl) : HdsOk X hds (clOf B cl) := by
  induction h with
  | nil => exact .nil
  | cons hk hc hsu r ih => exact .cons hc (fun a oe cls d pn _ _ => (hsu a oe pn).pss) ih
theorem HdsD.lt (h : HdsD X B nx hds cl) : ∀ q ∈ cl, q.1 < nx := by
  induction h with
  | nil => exact fun q hq => by cases hq
  | cons hk hc hsu r ih =>
    intro q hq
    rcases List.mem_cons.mp hq with rfl | hq
    · exact hk
    · exact ih q hq
theorem many_ok {D : Ends} (hx : ExmA B.K B.cls nx) {k : Nat} (hk : k < nx) {d : Option Addr} {e : Env} {S : Sr} {σ : L2.St} {F H : Hp} {sa : Option Addr} (ok : Ok B e S σ F H sa) : ∀ {cl : List (Nat × SF)}, (∀ q ∈ cl, q.1 < nx) →
    (∀ h, cl.lookup k = some h → PostS B W0 D F (h e S)) → (cl.lookup k = none → W (B.cls k) d σ H) → wMany B.K W D (clOf B cl) (B.cls k) d σ H
  | [], _, _, h2 => h2 rfl
  | (k', h') :: cl, hl, h1, h2 => by
    refine ⟨_, hx k k' hk (hl _ List.mem_cons_self), fun e a _ => ?_, fun e => ?_⟩
    · have e := of_decide_eq_true e
      exact ⟨_, S, F, sa, ok, h1 h' (by rw [List.lookup_cons, e]; simp)⟩
    · have e := of_decide_eq_false e
      have el : ((k', h') :: cl).lookup k = cl.lookup k := by
        rw [List.lookup_cons]
        have : (k == k') = false := by simpa using e
        rw [this]
      exact many_ok hx hk ok (fun q hq => hl q (List.mem_cons_of_mem _ hq)) (fun h hh => h1 h (by rw [el]; exact hh)) (fun hh => h2 (by rw [el]; exact hh))
theorem ds_try (hK : B.K = X.K) (hs : X.stack = X.env :: X.outer) (hf : X.env.frame = some X.env.locals) (tk : Takes X W) (hx : ExmA B.K B.cls nx)
    (hb : ∀ (W : WX) (pn : List (Addr × Obj)) (xe : Value → Shared → Prop), Takes (X.tr pn xe) W → PassesOwn (model X.prog X.w) X.A X.env xe → DSs (X.tr pn xe) B W body fb)
    (hh : HdsD X B nx (h₀ :: hds) cl) : DS X B W (.Try body (h₀ :: hds) [] [] pos) (sTry nx fb cl) := by
  refine ⟨_, ps_try_many hs hf tk (fun W pn xe t o => (hb W pn xe t o).pss) hh.ok, fun env S σ F H sa k D h => ⟨env, S, F, sa, k, ?_⟩⟩
  unfold sTry at h
  cases q : fb env S with
  | none => rw [q] at h; exact h.elim
  | some o =>
    rw [q] at h
    cases o with
    | ex x e S' =>
      intro σ' F' H' sa' k' g'
      have h : PostS B W D F (if x.k < nx then (match cl.lookup x.k with
        | some h => noEx (h e S')
        | none => some (.ex x e S')) else none) := h
      by_cases hn : x.k < nx
      · rw [if_pos hn] at h
        have key : ∀ d : Option Addr, (cl.lookup x.k = none → W (B.cls x.k) d σ' H') → wMany X.K W D (clOf B cl) (B.cls x.k) d σ' H' := fun d hd => by
          rw [← hK]
          refine many_ok hx hn k' hh.lt (fun hc e1 => ?_) hd
          rw [e1] at h
          exact (postS_noEx h).of g'
        unfold ExP
        cases ea : x.arg with
        | none =>
          refine key none fun e1 => ?_
          rw [e1] at h
          have z : ExP B W x σ' F' H' := h σ' F' H' sa' k' g'
          unfold ExP at z
          rw [ea] at z
          exact z
        | some p =>
          obtain ⟨fl, d⟩ := p
          refine fun da v h1 h2 h3 => key (some da) fun e1 => ?_
          rw [e1] at h
          have z : ExP B W x σ' F' H' := h σ' F' H' sa' k' g'
          unfold ExP at z
          rw [ea] at z
          exact z da v h1 h2 h3
      · rw [if_neg hn] at h
        exact h.elim
    | nx e S' => exact h
    | rt d S' => exact h
    | bk e S' => exact h
    | ct e S' => exact h
    | rn ds S' => exact h
end

/-! ### a call by a name that holds a def -/
structure HeldC (P : Program) (w : World) (K : PySem.W.Frag) (mg : Str → Option Value) (base : Heap) (cls : Nat → Value) (n k : Nat) (f : Addr) (fn : List It → M DD) : Prop where
  ex : ∃ fd ps, FnOk P w K mg base (L2.CX P w) k f fd ps (spI K cls n fn) ∧ PySem.W.keepIn K (.ref f) = true ∧ L2.Binds K fd ps []
theorem FnC.held {P : Program} {w : World} {K : PySem.W.Frag} {mg : Str → Option Value} {base : Heap} {cls : Nat → Value} {x : Str} {n k : Nat} {fn : List It → M DD} (h : FnC P w K mg base cls x n k fn) {f : Addr} (e : mg x = some (.ref f)) : HeldC P w K mg base cls n k f fn := by
  obtain ⟨f', fd, ps, F, hm, hk, hb⟩ := h.ex
  rw [e] at hm
  cases hm
  exact ⟨fd, ps, F, hk, hb⟩
def eCallL (i : Nat) (tab : Addr → Option (List It → M DD)) (as : Env → M (List It)) : Env → M DD := fun env => match env[i]? with
  | some (some (.d (.raw (.ref f)))) => (match tab f with
    | some fn => eCall fn as env
    | none => stk)
  | _ => stk
section
variable {B : Bs} {W : WX} {X : Cx} {e : Expr} {es : List Expr} {fr : Env → M (List It)} {pos : Pos}
theorem callL_inv {i : Nat} {tab : Addr → Option (List It → M DD)} {as : Env → M (List It)} {env : Env} {S : Sr} {good : DD → Sr → Prop} {bad : Ex → Sr → Prop} (h : Post good bad (eCallL i tab as env S)) :
    ∃ f fn, env[i]? = some (some (.d (.raw (.ref f)))) ∧ tab f = some fn ∧ Post good bad (eCall fn as env S) := by
  unfold eCallL at h
  cases e : env[i]? with
  | none => rw [e] at h; exact h.elim
  | some o =>
    cases o with
    | none => rw [e] at h; exact h.elim
    | some it =>
      cases it with
      | d x =>
        cases x with
        | raw v =>
          cases v with
          | ref f =>
            rw [e] at h
            simp only at h
            cases q : tab f with
            | none => rw [q] at h; exact h.elim
            | some fn => rw [q] at h; exact ⟨f, fn, rfl, q, h⟩
          | _ => rw [e] at h; exact h.elim
        | _ => rw [e] at h; exact h.elim
      | _ => rw [e] at h; exact h.elim
theorem de_callL (i : Nat) {x : Str} {p : Pos} {n kk m : Nat} {tab : Addr → Option (List It → M DD)} (hT : ∀ f fn, tab f = some fn → HeldC X.prog X.w X.K X.mg X.base B.cls n kk f fn) (hr : Room m X.A) (hkm : kk ≤ m) (hK : B.K = X.K) (tk : Takes X W) (hW : ∀ c d σ σ' H, W c d σ H → W c d σ' H) (ha : DI X B W (e :: es) fr) (hn : (e :: es).length = n := by rfl)
    (hN : X.N[i]? = some x := by rfl) (hv : Vis X.env.scope x := by first | exact Or.inl rfl | exact Or.inr (Or.inl rfl) | exact Or.inr (Or.inr rfl)) (hdb : (x == ("__debug__" : Str)) = false := by decide) (hcd : (x == ("__classdict__" : Str)) = false := by decide)
    (he : starEach (e :: es) X.env = (false, eval e X.env) :: starEach es X.env := by rfl) (hpl : (backTo pos (starEach es X.env)).any (·.1) = false := by rfl) :
    DE X B W (.Call (.Name x p) (e :: es) [] pos) (eCallL i tab fr) := by
  obtain ⟨ta, pa, sa, la⟩ := ha.ex
  refine ⟨fun σ H Q => ∃ f fn, σ[i]? = some (some (.ref f)) ∧ tab f = some fn ∧ ta σ H fun vs H1 => spI X.K B.cls n fn (vs ++ []) H1 Q (WE W σ), ⟨fun pins s σ H Q I ⟨f, fn, h1, h2, h3⟩ => ?_⟩, fun env S σ F H sa' k Q h => ?_⟩
  · obtain ⟨fd, ps, F, hk, hb⟩ := (hT f fn h2).ex
    exact (pe_callL (i := i) (E := WE W σ) F (hr.mono hkm) hN hv hk hb .nil (passes_call tk fun c d σ' H z => hW c d σ σ' H z) pa hdb hcd he hpl).run pins s σ H Q I ⟨h1, h3⟩
  · obtain ⟨f, fn, e1, e2, h⟩ := callL_inv h
    obtain ⟨v, h1, r1⟩ := k.sl i _ e1
    have r1 : Rp B.K F v (.raw (.ref f)) := r1
    cases r1.raw_inv
    refine ⟨f, fn, h1, e2, ?_⟩
    have h2 := Post.bnd h
    refine sa env S σ F H sa' k _ ?_
    cases q : fr env S with
    | none => rw [q] at h2; exact h2.elim
    | some pr =>
      obtain ⟨r, S1⟩ := pr
      rw [q] at h2
      cases r with
      | error x => exact h2
      | ok its =>
        intro vs F1 H1 k1 s1 r1
        rw [← hK, List.append_nil]
        exact call_snd (W := W) k1 r1 (by rw [r1.length, ← hn]; exact la env S its S1 q) (h2.same s1)
end

/-! ### a lambda handed to a def that tells its error by a word -/
def eWord (nx : Nat) (cl : List (Nat × Str)) (fb : Env → M DD) : Env → M DD := fun env S => match fb env S with
  | some (.ok _, S') => some (.ok (.str ""), S')
  | some (.error e, S') => if e.k < nx then (match cl.lookup e.k with
    | some w => some (.ok (.str w), S')
    | none => none) else none
  | none => none
def TTw (cls : Nat → Value) (nx : Nat) (cl : List (Nat × Str)) : (XK → Hp → VK → Prop) → Hp → VK → Prop := fun tl H Q =>
  tl (fun c _ H' => ∃ k w, k < nx ∧ c = cls k ∧ cl.lookup k = some w ∧ Q (.str w) H') H fun _ H' => Q (.str "") H'
/-- the clauses: each sets the word -/
inductive HdsW (cls : Nat → Value) (mg : Str → Option Value) (sc : Scope) (nx : Nat) (fx : Str) : List ExceptHandler → List (Nat × Str) → Prop
  | nil : HdsW cls mg sc nx fx [] []
  | cons {x w : Str} {k j : Nat} {np p1 p2 p3 p4 : Pos} {hds : List ExceptHandler} {l : List (Nat × Str)} (hk : k < nx) (hm : mg x = some (cls k)) (hg : sc.names.lookup x = some .globalImplicit) (hd : (x == ("__debug__" : Str)) = false) (r : HdsW cls mg sc nx fx hds l) :
      HdsW cls mg sc nx fx (.ExceptHandler (some (.Name x np)) none [.Assign [.Name fx p1] (.Constant (.str w) j p2) p3] p4 :: hds) ((k, w) :: l)
def clW (cls : Nat → Value) (l : List (Nat × Str)) : List (Value × (Addr → Value → Option Addr → TS)) := l.map fun q => (cls q.1, fun _ _ _ D σ H => D.nx (σ.set 1 (some (.str q.2))) H)
theorem HdsW.lt {cls : Nat → Value} {mg : Str → Option Value} {sc : Scope} {nx : Nat} {fx : Str} {hds : List ExceptHandler} {cl : List (Nat × Str)} (h : HdsW cls mg sc nx fx hds cl) : ∀ q ∈ cl, q.1 < nx := by
  induction h with
  | nil => exact fun q hq => by cases hq
  | cons hk _ _ _ r ih =>
    intro q hq
    rcases List.mem_cons.mp hq with rfl | hq
    · exact hk
    · exact ih q hq
theorem manyW {K : PySem.W.Frag} {cls : Nat → Value} {nx : Nat} (hx : ExmA K cls nx) {k : Nat} (hk : k < nx) {D : Ends} {d : Option Addr} {σ : L2.St} {H : Hp} {w : Str} : ∀ {cl : List (Nat × Str)}, (∀ q ∈ cl, q.1 < nx) → cl.lookup k = some w →
    D.nx (σ.set 1 (some (.str w))) H → wMany K (fun _ _ _ _ => False) D (clW cls cl) (cls k) d σ H
  | [], _, h, _ => by cases h
  | (k', w') :: cl, hl, h1, h2 => by
    refine ⟨_, hx k k' hk (hl _ List.mem_cons_self), fun e a _ => ?_, fun e => ?_⟩
    · have e := of_decide_eq_true e
      rw [List.lookup_cons, e] at h1
      simp only [beq_self_eq_true] at h1
      cases h1
      exact h2
    · have e := of_decide_eq_false e
      refine manyW hx hk (fun q hq => hl q (List.mem_cons_of_mem _ hq)) ?_ h2
      rw [List.lookup_cons] at h1
      have e3 : (k == k') = false := by simpa using e
      rw [e3] at h1
      exact h1
theorem takes_len {X : Cx} {W : WX} (t : Takes X W) : Takes X fun c d σ H => σ.length = X.N.length → W c d σ H := fun u s' ⟨a, B, sI, pins, σ, H, cls, d, e, I, nb, up, sky, na, os, ag, w⟩ =>
  t u s' ⟨a, B, sI, pins, σ, H, cls, d, e, I, nb, up, sky, na, os, ag, w I.len⟩
theorem word_gives {X : Cx} {x a fx q : Str} {Ng : List Str} {sg : Scope} {g : Addr} {cdg : Value} {cls : Nat → Value} {nx j : Nat} {h₀ : ExceptHandler} {hds : List ExceptHandler} {cl : List (Nat × Str)} {p1 p2 p3 p4 p5 p6 p7 p8 p9 : Pos} (hx : ExmA X.K cls nx)
    (hh : HdsW cls X.mg sg nx fx (h₀ :: hds) cl) (hNg : Ng = [a, fx]) (hnd : Ng.Nodup) (hl : sg.names.lookup fx = some .local) (hdb : (fx == ("__debug__" : Str)) = false) (hcd : (fx == ("__classdict__" : Str)) = false) :
    LamX.GivesTo X Ng x sg g cdg [.Assign [.Name fx p1] (.Constant (.str "") j p2) p3, .Try [.Expr (.Call (.Name a p4) [] [] p5) p6] (h₀ :: hds) [] [] p7, .Return (some (.Name fx p8)) p9] a q (TTw cls nx cl) := by
  intro f c' s H Q tl act hc h
  subst hNg
  have hdl : HdsOk (cxOf C8.CX0 X.prog X.w X.K X.mg X.base [a, fx] x sg g cdg X.A X.stack s H C8.E0).nox (h₀ :: hds) (clW cls cl) := by
    clear h
    generalize h₀ :: hds = hs at hh
    induction hh with
    | nil => exact .nil
    | cons hk hm hg hd r ih =>
      refine .cons ⟨hg, hd, .inl hm⟩ (fun a oe cls d pn _ _ => ?_) ih
      exact pss_one (ps_set (i := 1) hnd rfl (Or.inl hl) pe_str)
  refine ⟨_, pss_cons (ps_set (i := 1) hnd rfl (Or.inl hl) pe_str) (pss_cons (ps_try_many (tb := fun W D σ H => ∃ Ech : XK, (∀ cls d σ' H', Ech cls d H' → σ'.length = 2 → W cls d σ' H') ∧ σ = [some (.ref f), some (.str "")] ∧ H c' = some (LamX.CodeO c' q) ∧ tl Ech H fun _ H' => D.nx σ H') (Wout := fun _ _ _ _ => False)
      rfl rfl L2.takes_none5 (fun W pn xe tk _ => ?_) hdl) (pss_one (ps_ret (pe_var (i := 1) rfl (Or.inl hl) hdb hcd)))), ?_⟩
  · refine ⟨fun pins s' σ H' D I h' => ?_⟩
    obtain ⟨Ech, hW, h1, h2, h3⟩ := h'
    exact (pss_one (ps_expr (pos := p6) (act _ pn xe Ech p4 p5 (takes_len tk) hW))).run pins s' σ H' D I ⟨by rw [h1]; rfl, h2, h3⟩
  · refine ⟨fun c _ H' => ∃ k w, k < nx ∧ c = cls k ∧ cl.lookup k = some w ∧ Q (.str w) H', fun c d σ' H' ⟨k, w, h1, h2, h3, h4⟩ hl2 => ?_, rfl, hc, ?_⟩
    · subst h2
      refine manyW hx h1 hh.lt h3 ⟨.str w, ?_, h4⟩
      rw [List.getElem?_set_self (by rw [hl2]; decide)]
    · have e : (fun (_ : V) H' => Q (.str "") H') = fun (_ : V) H' => ({ nx := tRet (tVar 1) { nx := fun _ H' => Q V.non H', rt := Q }, rt := Q } : Ends).nx (List.set (L2.start [a, fx] [V.ref f]) 1 (some (V.str ""))) H' := by
        funext _ H'
        apply propext
        constructor
        · exact fun z => ⟨.str "", rfl, z⟩
        · rintro ⟨v, h1, z⟩
          cases h1
          exact z
      have h' : tl (fun c _ H' => ∃ k w, k < nx ∧ c = cls k ∧ cl.lookup k = some w ∧ Q (.str w) H') H (fun (_ : V) H' => Q (.str "") H') := h
      rw [e] at h'
      exact h'

/-! ### the lambda's body reckons behind more objects -/
section
variable {B : Bs} {env : Env} {S : Sr} {σ : L2.St} {F H H1 : Hp} {sa : Option Addr}
theorem Ok.extN (k : Ok B env S σ F H sa) (hT : B.T ≠ []) (e : LamX.ExtN H H1) (t : LamX.Tabs B.T H1) : Ok B env S σ F H1 sa := by
  have nl : ∀ {xs : List V} (ps : Array Value), (HO.lst xs) ≠ .tbl ps := fun ps z => by cases z
  have nk : ∀ {o : HO}, Kp B o → ∀ ps, o ≠ .tbl ps := fun h => h.resolve_left hT
  refine ⟨k.ff, fun a o q => e a o (k.fh a o q) fun ps z => k.ft a ps (z ▸ q), fun a o q h1 h2 => e a o (k.hh a o q h1 h2) (nk h2), k.nf, t, k.sa0, fun a q => ?_, k.len, fun i it q => ?_, k.dj, k.ft⟩
  · obtain ⟨h1, h2, h3⟩ := k.so a q
    exact ⟨h1, e _ _ h2 nl, h3⟩
  · obtain ⟨v, h1, h2⟩ := k.sl i it q
    refine ⟨v, h1, ?_⟩
    cases it with
    | d x => exact h2
    | l xs =>
      obtain ⟨a, vs, e1, e2, e3, e4, e5, e6⟩ := h2
      exact ⟨a, vs, e1, e2, e3, e4, e _ _ e5 nl, e6⟩
    | m ks ws =>
      obtain ⟨a, xs, e1, e2, e3, e4, e5, e6⟩ := h2
      exact ⟨a, xs, e1, e2, e3, e4, e _ _ e5 (fun ps z => by unfold dxO at z; cases z), e6⟩
    | s => exact h2
    | sc ns => exact h2
theorem Gw.extN (hT : B.T ≠ []) (e : LamX.ExtN H H1) : Gw B sa F H F H1 :=
  ⟨Same.refl F, fun a o q _ h => e a o q (h.resolve_left hT), fun a o _ _ h => h, fun a o q h => ⟨o, e a o q (h.resolve_left hT), h⟩⟩
end
theorem takes_lam {X : Cx} {A : Around} {outer : List PySem.Env} {s : Shared} {H : Hp} {E : XK} {scope : Scope} {f c' : Addr} : Takes (LamX.lamCx X A outer s H E scope f c') (WD E) := takes_of rfl rfl rfl rfl
section
variable {B : Bs} {W : WX} {X : Cx}
theorem de_word {x a : Str} {g c P : Addr} {k nx : Nat} {pg : Arguments} {bg : List Stmt} {sg : Scope} {dV kV doc pm cdv ct oc : Value} {an od : Option Addr} {osl : Array (Option Value)} {Ng : List Str} {cl : List (Nat × Str)} {fb : Env → M DD}
    {params : Arguments} {body : Expr} {scope : Scope} {p lpos pos : Pos} (hm : X.mg x = some (.ref g)) (hk : PySem.W.keepIn X.K (.ref g) = true)
    (lk : X.K.lookup g = some ⟨oc, od, .func (PySem.W.fnOf x x pg bg sg dV kV doc pm an cdv ct), osl⟩) (hcg : PySem.W.codeIn X.K cdv x = true) (hb : L2.Binds X.K (PySem.W.fnOf x x pg bg sg dV kV doc pm an cdv ct) [a] []) (Sg : FnScope Ng [a] sg) (hNg : Ng[0]? = some a) (hva : Vis sg a)
    (hG : LamX.GivesTo X Ng x sg g cdv bg a (X.env.qual ++ "<lambda>") (TTw B.cls nx cl)) (TB : LamX.TabB X.base X.mg c P) (hcode : X.env.code = .ref c) (hT : B.T = [(P, X.env.qual ++ "<lambda>")]) (hr : Room (k + 2) X.A)
    (hbody : ∀ (A : Around) (outer : List PySem.Env) (s : Shared) (H : Hp) (E : XK) (f c' : Addr), Room k (A.deeper (LamX.lamEnv X scope s.heap.objs.size f c')) → DE (LamX.lamCx X A outer s H E scope f c') B (WD E) body fb)
    (L : LamX.LamS X.env.scope scope) (hdef : defaultsOf params X.env = ([], []) := by rfl) (hbind : ∀ (q : Str) (cl : List (Str × Addr)) (pm cv ctv : Value), bindArgs (PySem.W.kla_fn "<lambda>" q params body scope cl pm cv ctv) ⟨[], []⟩ = pure [] := by intro _ _ _ _ _; rfl)
    (hg : Gl X x := by rfl) (hdb : (x == ("__debug__" : Str)) = false := by decide) (hd : (a == ("__debug__" : Str)) = false := by decide) (hcd : (a == ("__classdict__" : Str)) = false := by decide) :
    DE X B W (.Call (.Name x p) [.Lambda params body scope lpos] [] pos) (eWord nx cl fb) := by
  have hTn : B.T ≠ [] := by rw [hT]; simp
  refine ⟨_, LamX.pe_lamcall (t := fun E => tOf B (WD E) fb) hg hm hk lk hcg hb Sg hNg hva hG TB hcode (T := B.T) (by rw [hT]; exact List.mem_singleton_self _) (fun q hq _ => by rw [hT] at hq; rw [List.mem_singleton.mp hq]) hr L hdef hbind (fun A outer s H E f c' hr' => (hbody A outer s H E f c' hr').pe) hdb hd hcd, fun env S σ F H sa kk Q h => ?_⟩
  refine ⟨kk.tb, fun H1 eN T1 => ?_⟩
  have k1 := kk.extN hTn eN T1
  have g1 : Gw B sa F H F H1 := Gw.extN hTn eN
  refine ⟨env, S, F, sa, k1, ?_⟩
  unfold eWord at h
  cases q : fb env S with
  | none => rw [q] at h; exact h.elim
  | some pr =>
    obtain ⟨r, S'⟩ := pr
    rw [q] at h
    cases r with
    | ok d => exact fun v F' H' k' g' r' => h _ F' H' k' (g1.trans g') (.str _)
    | error e =>
      have h : Post (Good B env σ F H sa Q) (Bad B W env σ F H sa) (if e.k < nx then (match cl.lookup e.k with
        | some w => some (.ok (.str w), S')
        | none => none) else none) := h
      by_cases hn : e.k < nx
      · rw [if_pos hn] at h
        cases q2 : cl.lookup e.k with
        | none => rw [q2] at h; exact h.elim
        | some w =>
          rw [q2] at h
          intro F' H' k' g'
          have z : ∃ k w, k < nx ∧ B.cls e.k = B.cls k ∧ cl.lookup k = some w ∧ Q (.str w) H' := ⟨e.k, w, hn, rfl, q2, h _ F' H' k' (g1.trans g') (.str _)⟩
          unfold ExP
          cases e.arg with
          | none => exact z
          | some p => exact fun _ _ _ _ _ => z
      · rw [if_neg hn] at h
        exact h.elim
end
end AU
namespace AU
open PySem PySem.Spec PyProof.Rows L2

section
variable {B : Bs} {W : WX} {X : Cx} {e tg iter : Expr} {ft : Env → M Bool} {fi : Env → M (List DD)} {fg : Env → DD → Option Env} {js : List Nat} {pos : Pos}
/-- x = [.. for ..] on one line, x a local -/
theorem ds_setLc (i : Nat) {y : Str} {py spos : Pos} {elt : Expr} {ifs : List Expr} {scope : Scope} {own : List (Str × Nat)} {fe : Env → M DD} (hc : X.calm = true) (hN : X.N.Nodup) (hi : DJ X B W tg iter fi) (ok : BlkOk X.N X.env.scope scope own)
    (hg : ∀ (s : Shared) (H : Hp) (C : Addr) (cl : List (Str × Addr)) (fp : List Addr), DG (X.blk s H scope (compEnvC scope cl C X.env) fp) B tg fg js)
    (ht : ∀ (s : Shared) (H : Hp) (C : Addr) (cl : List (Str × Addr)) (fp : List Addr), DTs (X.blk s H scope (compEnvC scope cl C X.env) fp) B W0 ifs ft)
    (he : ∀ (s : Shared) (H : Hp) (C : Addr) (cl : List (Str × Addr)) (fp : List Addr), DE (X.blk s H scope (compEnvC scope cl C X.env) fp) B W0 elt fe)
    (hjs : ∀ j ∈ js, j ∈ own.map (·.2) := by decide) (hs : ∀ x, foldedSetIterable iter X.env x = pure x := by intro _; rfl)
    (hy : X.N[i]? = some y := by rfl) (hyl : X.env.scope.names.lookup y = some .local := by rfl) (hsw : swapsWith (.ListComp elt [⟨tg, iter, ifs, 0⟩] scope pos) (some (.Name y py)) spos.line X.env = pure true := by rfl) :
    DS X B W (.Assign [.Name y py] (.ListComp elt [⟨tg, iter, ifs, 0⟩] scope pos) spos) (sAsg (eLc (own.map (·.2)) fi fg ft fe) (gN i)) := by
  obtain ⟨wi, pi, si⟩ := hi.ex
  refine ⟨_, ps_setLc hc hN hy hyl hsw pi ok (fun s H C cl fp => (hg s H C cl fp).pg) (fun s H C cl fp => (ht s H C cl fp).pts) (fun s H C cl fp => (he s H C cl fp).pe) hs, fun env S σ F H sa k D h => ?_⟩
  refine snd_lc si sndOfG sndOfT sndOf hjs env S σ F H sa k _ ((post_exp k h).imp fun d S1 h1 v F1 H1 k1 g1 r1 => ?_)
  exact sndG_name i env S1 σ F1 H1 sa v d _ k1 r1 rfl _ fun σ2 k2 _ _ => h1 σ2 F1 H1 sa k2 g1.ff
def eNeg (f : Env → M DD) : Env → M DD := fun env => bnd (f env) fun x => match x with | .int i => ret (.int (-i)) | _ => stk
theorem de_ng {a : Expr} {fa : Env → M DD} (ha : DE X B W a fa) : DE X B W (.UnaryOp .USub a pos) (eNeg fa) := de_neg (j := 0) ha
def minI (i j : Int) : Int := if j < i then j else i
def maxI (i j : Int) : Int := if j > i then j else i
theorem de_mn {e e2 : Expr} {fr : Env → M (List DD)} {p : Pos} (hc : X.calm = true) (hm : X.mg "min" = none) (ha : DA X B W [e, e2] fr) (hg : Gl X "min" := by rfl)
    (he : starEach [e, e2] X.env = (false, eval e X.env) :: starEach [e2] X.env := by rfl) (hpl : (backTo pos (starEach [e2] X.env)).any (·.1) = false := by rfl) : DE X B W (.Call (.Name "min" p) [e, e2] [] pos) (eB (b2I minI) fr) := de_min hc hm ha hg he hpl
theorem de_mx {e e2 : Expr} {fr : Env → M (List DD)} {p : Pos} (hc : X.calm = true) (hm : X.mg "max" = none) (ha : DA X B W [e, e2] fr) (hg : Gl X "max" := by rfl)
    (he : starEach [e, e2] X.env = (false, eval e X.env) :: starEach [e2] X.env := by rfl) (hpl : (backTo pos (starEach [e2] X.env)).any (·.1) = false := by rfl) : DE X B W (.Call (.Name "max" p) [e, e2] [] pos) (eB (b2I maxI) fr) := de_max hc hm ha hg he hpl
theorem sndT_val {te : TE} {fa : Env → M DD} (s : SndE B W te fa) : SndT B W (tTest te) (tV fa) := fun env S σ F H sa k Q hq => s env S σ F H sa k _ ((Post.bnd hq).imp fun x S1 h1 v F1 H1 k1 e1 r1 => by
  cases x with
  | bl i =>
    cases r1.bl_inv
    exact ⟨i, rfl, h1 F1 H1 k1 e1⟩
  | _ => exact h1.elim)
section
variable {a b c : Expr} {fa fb fc : Env → M DD}
theorem dt_cmp {r : R2} {op : CmpOp} {f : DD → DD → M DD} (ho : OpR X (compareOp op) r) (hs : OpSnd B W r f) (ha : DE X B W a fa) (hb : DE X B W b fb) (hm : behindInMarks op b = false := by first | exact nomark _ | rfl) : DT X B W (.Compare a [op] [b] pos) (tV (eOp f fa fb)) := by
  obtain ⟨ta, pa, sa⟩ := ha.ex
  obtain ⟨tb, pb, sb⟩ := hb.ex
  exact ⟨_, pt_cmpR ho pa pb hm, sndT_val (sndE_op hs sa sb)⟩
theorem dt_lt (ha : DE X B W a fa) (hb : DE X B W b fb) : DT X B W (.Compare a [.Lt] [b] pos) (tV (eOp opLt fa fb)) := dt_cmp op_lt (snd_I0 fun _ _ _ => .bl _) ha hb (nomark _)
theorem dt_le (ha : DE X B W a fa) (hb : DE X B W b fb) : DT X B W (.Compare a [.LtE] [b] pos) (tV (eOp opLe fa fb)) := dt_cmp op_le (snd_I0 fun _ _ _ => .bl _) ha hb (nomark _)
theorem dt_gt (ha : DE X B W a fa) (hb : DE X B W b fb) : DT X B W (.Compare a [.Gt] [b] pos) (tV (eOp opGt fa fb)) := dt_cmp op_gt (snd_I0 fun _ _ _ => .bl _) ha hb (nomark _)
theorem dt_ge (ha : DE X B W a fa) (hb : DE X B W b fb) : DT X B W (.Compare a [.GtE] [b] pos) (tV (eOp opGe fa fb)) := dt_cmp op_ge (snd_I0 fun _ _ _ => .bl _) ha hb (nomark _)
theorem dt_eq {n : Nat} (hK : B.K = X.K) (hr : Room n X.A) (ha : DE X B W a fa) (hb : DE X B W b fb) : DT X B W (.Compare a [.Eq] [b] pos) (tV (eOp opEq fa fb)) := dt_cmp (op_eqD hr.units) (hK ▸ snd_eq) ha hb (nomark _)
theorem dt_ne {n : Nat} (hK : B.K = X.K) (hr : Room n X.A) (ha : DE X B W a fa) (hb : DE X B W b fb) : DT X B W (.Compare a [.NotEq] [b] pos) (tV (eOp opNe fa fb)) := dt_cmp (op_neD hr.units) (hK ▸ snd_ne) ha hb (nomark _)
theorem dt_isN (ha : DE X B W a fa) (hb : DE X B W b fb) : DT X B W (.Compare a [.Is] [b] pos) (tV (eOp opIs fa fb)) := dt_cmp op_isN snd_is ha hb (nomark _)
theorem dt_notN (ha : DE X B W a fa) (hb : DE X B W b fb) : DT X B W (.Compare a [.IsNot] [b] pos) (tV (eOp opIsNot fa fb)) := dt_cmp op_notN snd_isnot ha hb (nomark _)
theorem dt_in {n : Nat} (hK : B.K = X.K) (hr : Room n X.A) (ha : DE X B W a fa) (hb : DE X B W b fb) (hm : behindInMarks .In b = false := by rfl) : DT X B W (.Compare a [.In] [b] pos) (tV (eOp opIn fa fb)) := dt_cmp (OpR.or (or_in (by have := hr.un; omega)) (or_inX hr.units)) (hK ▸ snd_in) ha hb hm
theorem dt_notin {n : Nat} (hK : B.K = X.K) (hr : Room n X.A) (ha : DE X B W a fa) (hb : DE X B W b fb) (hm : behindInMarks .NotIn b = false := by rfl) : DT X B W (.Compare a [.NotIn] [b] pos) (tV (eOp opNotIn fa fb)) := dt_cmp (OpR.or (or_notin (by have := hr.un; omega)) (or_notinX hr.units)) (hK ▸ snd_in) ha hb hm
theorem dt_isB (ha : DE X B W a fa) (hb : DE X B W b fb) : DT X B W (.Compare a [.Is] [b] pos) (tV (eOp opIsB fa fb)) := dt_cmp op_is_bl (fun env S σ F H sa v w x y k rx ry Q h => by
  cases x <;> cases y <;> first | exact h.elim | skip
  cases rx.bl_inv
  cases ry.bl_inv
  exact ⟨_, _, rfl, rfl, h _ F H k Gw.refl (.bl _)⟩) ha hb (nomark _)
theorem dt_isnotB (ha : DE X B W a fa) (hb : DE X B W b fb) : DT X B W (.Compare a [.IsNot] [b] pos) (tV (eOp opIsNotB fa fb)) := dt_cmp op_isnot_bl (fun env S σ F H sa v w x y k rx ry Q h => by
  cases x <;> cases y <;> first | exact h.elim | skip
  cases rx.bl_inv
  cases ry.bl_inv
  exact ⟨_, _, rfl, rfl, h _ F H k Gw.refl (.bl _)⟩) ha hb (nomark _)
theorem dt_chain {op op' : CmpOp} {r r' : R2} {g g' : DD → DD → M DD} (ho : OpR X (compareOp op) r) (ho' : OpR X (compareOp op') r') (hs : OpSnd B W r g) (hs' : OpSnd B W r' g') (ha : DE X B W a fa) (hb : DE X B W b fb) (hc : DE X B W c fc)
    (hm : lastMarks [op, op'] [b, c] = false := by with_unfolding_all rfl) : DT X B W (.Compare a [op, op'] [b, c] pos) (tV (eChain g g' fa fb fc)) := by
  obtain ⟨t, p, s⟩ := ha.ex
  obtain ⟨t1, p1, s1⟩ := hb.ex
  obtain ⟨t2, p2, s2⟩ := hc.ex
  refine ⟨_, pt_chain ho ho' p p1 p2 hm, sndT_val fun env S σ F H sa k Q hq => s env S σ F H sa k _ ((Post.bnd hq).imp fun x S1 h1 v F1 H1 k1 e1 r1 => ?_)⟩
  refine s1 env S1 σ F1 H1 sa k1 _ ((Post.bnd (h1.same e1)).imp fun y S2 h2 w F2 H2 k2 e2 r2 => ?_)
  refine hs env S2 σ F2 H2 sa v w x y k2 (Rp.same e2.ff x r1) r2 _ ((Post.bnd (h2.same e2)).imp fun z S3 h3 u F3 H3 k3 e3 r3 => ?_)
  cases z with
  | bl z =>
    cases r3.bl_inv
    cases z with
    | true =>
      refine ⟨true, rfl, iteT (s2 env S3 σ F3 H3 sa k3 _ ((Post.bnd (Post.same e3 h3)).imp fun q S4 h4 u4 F4 H4 k4 e4 r4 => ?_))⟩
      exact hs' env S4 σ F4 H4 sa w u4 y q k4 (Rp.same (e3.trans e4).ff y r2) r4 Q (Post.same e4 h4)
    | false => exact ⟨false, rfl, iteF (h3 _ F3 H3 k3 e3 (.bl _))⟩
  | _ => exact h3.elim
theorem dt_lele (ha : DE X B W a fa) (hb : DE X B W b fb) (hc : DE X B W c fc) : DT X B W (.Compare a [.LtE, .LtE] [b, c] pos) (tV (eChain opLe opLe fa fb fc)) :=
  dt_chain op_le op_le (snd_I0 fun _ _ _ => .bl _) (snd_I0 fun _ _ _ => .bl _) ha hb hc (show lastMarks [CmpOp.LtE, CmpOp.LtE] [b, c] = false from nomark (op := .LtE) c)
end
/-! ### names of the module -/
theorem de_globI {x : Str} {i : Int} (h : ∃ t, X.mg x = some (.int i t)) (hg : Gl X x := by rfl) (hd : (x == ("__debug__" : Str)) = false := by decide) : DE X B W (.Name x pos) (eC (.int i)) := by
  obtain ⟨t, e⟩ := h
  exact de_glob (v := .int i) e ⟨t, rfl⟩ (fun _ => .int _) hg hd
theorem de_globS {x z : Str} (h : ∃ t, X.mg x = some (.str z t)) (hg : Gl X x := by rfl) (hd : (x == ("__debug__" : Str)) = false := by decide) : DE X B W (.Name x pos) (eC (.str z)) := by
  obtain ⟨t, e⟩ := h
  exact de_glob (v := .str z) e ⟨t, rfl⟩ (fun _ => .str _) hg hd
/-- a tuple of the module -/
structure GloT (K : PySem.W.Frag) (mg : Str → Option Value) (x : Str) (d : DD) : Prop where
  ex : ∃ a, mg x = some (.ref a) ∧ ∀ F, Rp K F (.ref a) d
theorem de_globT {x : Str} {d : DD} (h : GloT B.K X.mg x d) (hg : Gl X x := by rfl) (hd : (x == ("__debug__" : Str)) = false := by decide) : DE X B W (.Name x pos) (eC d) := by
  obtain ⟨a, e, r⟩ := h.ex
  exact de_glob (v := .ref a) e rfl r hg hd
theorem de_globF {x : Str} {f : Addr} (h : X.mg x = some (.ref f)) (hg : Gl X x := by rfl) (hd : (x == ("__debug__" : Str)) = false := by decide) : DE X B W (.Name x pos) (eC (.raw (.ref f))) := de_glob (v := .ref f) h rfl (fun _ => .raw _) hg hd
end
theorem rp_strs {K : PySem.W.Frag} {F : Hp} : ∀ (xs : List Str), RpA K F (xs.map V.str) (xs.map DD.str)
  | [] => .nil
  | x :: xs => .cons (.str x) (rp_strs xs)
theorem gloT_strs {K : PySem.W.Frag} {mg : Str → Option Value} {x : Str} {xs : List Str} (hm : mg x = some (.ref (He.ga K x))) (h : He.tupB K x (xs.map He.Dv.str) = true) : GloT K mg x (.tup (xs.map DD.str)) := by
  refine ⟨_, hm, fun F => .tup (He.tupB_ok h F) ?_⟩
  rw [List.map_map]
  exact rp_strs xs
/-! ### the classes of errors -/
def clsOf (K : PySem.W.Frag) (names : List Str) (k : Nat) : Value := .ref (He.ga K (names.getD k ""))
def exmB (K : PySem.W.Frag) (names : List Str) : Bool := (List.range names.length).all fun i => (List.range names.length).all fun j => decide (PySem.W.exmOne K (clsOf K names i) (clsOf K names j) = some (decide (i = j)))
theorem exmB_ok {K : PySem.W.Frag} {names : List Str} (h : exmB K names = true) : ExmA K (clsOf K names) names.length := fun i j hi hj => by
  have h1 := List.all_eq_true.mp h i (List.mem_range.mpr hi)
  have h2 := List.all_eq_true.mp h1 j (List.mem_range.mpr hj)
  exact of_decide_eq_true h2
theorem excC_of {K : PySem.W.Frag} {mg : Str → Option Value} {names : List Str} {x : Str} {k : Nat} (hk : names.getD k "" = x) (hm : mg x = some (.ref (He.ga K x))) (h : (He.Fa.exc x).ok K = true) : ExC K mg (clsOf K names) x k := by
  obtain ⟨h1, h2, h3, h4⟩ := He.exc_ok h
  exact ⟨_, by unfold clsOf; rw [hk], h1, hm, h2, h3, h4⟩
end AU
namespace AU
open PySem PySem.Spec PyProof.Rows L2

section
variable {B : Bs} {W : WX} {X : Cx}
theorem de_wordF {x a : Str} {st : Stmt} {g c P : Addr} {fd : FuncData} {k nx : Nat} {Ng : List Str} {cl : List (Nat × Str)} {fb : Env → M DD} {params : Arguments} {body : Expr} {scope : Scope} {p lpos pos : Pos}
    (F : Fun X.K x x st g fd) (hm : X.mg x = some (.ref g)) (hb : L2.Binds X.K fd [a] []) (Sg : FnScope Ng [a] (defScope st)) (hNg : Ng[0]? = some a) (hva : Vis (defScope st) a)
    (hG : ∀ cdv, LamX.GivesTo X Ng x (defScope st) g cdv (defBody st) a (X.env.qual ++ "<lambda>") (TTw B.cls nx cl)) (TB : LamX.TabB X.base X.mg c P) (hcode : X.env.code = .ref c) (hT : B.T = [(P, X.env.qual ++ "<lambda>")]) (hr : Room (k + 2) X.A)
    (hbody : ∀ (A : Around) (outer : List PySem.Env) (s : Shared) (H : Hp) (E : XK) (f c' : Addr), Room k (A.deeper (LamX.lamEnv X scope s.heap.objs.size f c')) → DE (LamX.lamCx X A outer s H E scope f c') B (WD E) body fb)
    (L : LamX.LamS X.env.scope scope) (hdef : defaultsOf params X.env = ([], []) := by rfl) (hbind : ∀ (q : Str) (cl : List (Str × Addr)) (pm cv ctv : Value), bindArgs (PySem.W.kla_fn "<lambda>" q params body scope cl pm cv ctv) ⟨[], []⟩ = pure [] := by intro _ _ _ _ _; rfl)
    (hg : Gl X x := by rfl) (hdb : (x == ("__debug__" : Str)) = false := by decide) (hd : (a == ("__debug__" : Str)) = false := by decide) (hcd : (a == ("__classdict__" : Str)) = false := by decide) :
    DE X B W (.Call (.Name x p) [.Lambda params body scope lpos] [] pos) (eWord nx cl fb) := by
  obtain ⟨oc, od, kV, doc, pm, an, cdv, ct, osl, rfl, lk, hcd'⟩ := F.ex
  exact de_word hm F.kp lk hcd' hb Sg hNg hva (hG cdv) TB hcode hT hr hbody L hdef hbind hg hdb hd hcd
end
/-- what is laid down at first: all but tables -/
def noT (H : Hp) : Hp := fun a => match H a with
  | some (.tbl _) => none
  | o => o
theorem noT_some {H : Hp} {a : Addr} {o : HO} (h : noT H a = some o) : H a = some o ∧ ∀ ps, o ≠ .tbl ps := by
  unfold noT at h
  split at h
  · cases h
  · rename_i h1
    exact ⟨h, fun ps z => h1 ps (by rw [h, z])⟩
theorem noT_of {H : Hp} {a : Addr} {o : HO} (h : H a = some o) (n : ∀ ps, o ≠ .tbl ps) : noT H a = some o := by
  unfold noT
  split
  · rename_i ps e
    rw [h] at e
    exact absurd (Option.some.inj e) (n ps)
  · exact h
theorem noT_seq {K : PySem.W.Frag} {H : Hp} {a : Addr} {xs : List V} (h : SqL K H a xs) : SqL K (noT H) a xs := by
  rcases h with (h | ⟨o, h⟩) | h
  · exact .inl (.inl (noT_of h fun ps z => by cases z))
  · exact .inl (.inr ⟨o, noT_of h fun ps z => by cases z⟩)
  · exact .inr h
def spL (K : PySem.W.Frag) (T : List (Addr × Str)) : Sp := fun vs H Q _ => ∃ (a : Addr) (ns : List Int), vs = [.ref a] ∧ (∀ p ∈ T, H p.1 = some (.tbl #[])) ∧ SqL K H a (ns.map V.int) ∧ ns.length ≤ 63 ∧ (∀ z ∈ ns, Builtin.Int.intBits z ≤ 1048576) ∧ ∀ H', Q (.bl true) H'
def lamQ : Str := (envOfC "law" ⟨.function, [], false, false, []⟩ 0 0 .none).qual ++ "<lambda>"
section
variable {P : Program} {w : World} {K : PySem.W.Frag} {mg : Str → Option Value} {base : Heap} {cls : Nat → Value}
abbrev BL (K : PySem.W.Frag) (T : List (Addr × Str)) (cls : Nat → Value) : Bs := ⟨K, fun _ => none, fun _ => none, none, T, cls⟩
theorem ok_first {N : List Str} {T : List (Addr × Str)} {a : Addr} {ns : List Int} {H : Hp} {S : Sr} (ha : SqL K H a (ns.map V.int)) (hT : ∀ p ∈ T, H p.1 = some (.tbl #[])) : Ok (BL K T cls) (env0 N.length [.sc ns]) S (L2.start N [.ref a]) (noT H) H none := by
  have get0 : ∀ {i : Nat} {it : It}, (env0 N.length [.sc ns])[i]? = some (some it) → i = 0 ∧ it = .sc ns := fun {i it} e => by
    unfold env0 at e
    cases i with
    | zero =>
      cases e
      exact ⟨rfl, rfl⟩
    | succ i =>
      have e : (List.replicate (N.length - 1) (none : Option It))[i]? = some (some it) := e
      rw [List.getElem?_replicate] at e
      split at e <;> cases e
  refine ⟨fun b u e => (by cases e), fun b u e => (noT_some e).1, fun b u e => (by cases e), fun b u e => (by cases e), fun p hp => .nil (hT p hp), .inl rfl, fun b e => (by cases e), ?_, fun i it e => ?_, fun i j xs ys b _ h2 o2 => ?_, fun b ps e => (noT_some e).2 ps rfl⟩
  · unfold env0 L2.start
    simp
  · obtain ⟨rfl, rfl⟩ := get0 e
    exact ⟨.ref a, rfl, a, rfl, noT_seq ha⟩
  · rw [(get0 h2).2] at o2
    cases o2
theorem law_of {st : Stmt} {fd : FuncData} {f : Addr} {N : List Str} {sx : Str} {k : Nat} {T : List (Addr × Str)} {fl : SF} (F : Fun K "law" "law" st f fd) (S : FnScope N [sx] (defScope st))
    (body : ∀ (cdv : Value) (A : Around) (outer : List PySem.Env) (s : Shared) (H : Hp) (E : XK), (∃ (oc : Value) (od : Option Addr) (osl : Array (Option Value)), K.lookup f = some ⟨oc, od, .func fd, osl⟩ ∧ fd.code = cdv ∧ PySem.W.codeIn K cdv "law" = true) →
      Room k (A.deeper (envOfC "law" (defScope st) s.heap.objs.size f cdv)) → DSs (cxOf (L2.CX P w) P w K mg base N "law" (defScope st) f cdv A outer s H E) (BL K T cls) (WD E) (defBody st) fl)
    (tr : ∀ ns : List Int, ns.length ≤ 63 → (∀ z ∈ ns, Builtin.Int.intBits z ≤ 1048576) → ∃ S', fl (env0 N.length [.sc ns]) (0, 0) = some (.rt (.bl true) S')) : FnOk P w K mg base (L2.CX P w) (k + 1) f fd [sx] (spL K T) := by
  obtain ⟨oc, od, kV, doc, pm, an, cdv, ct, osl, rfl, lk, hcd⟩ := F.ex
  refine fn_of lk hcd S (fun vs H Q E h => ?_) fun A outer s H vs Q E hr h => ?_
  · obtain ⟨_, _, rfl, _⟩ := h
    rfl
  · obtain ⟨a, ns, rfl, hT, hS, hl, hb, hQ⟩ := h
    obtain ⟨t, pp, ss⟩ := (body cdv A outer s H E ⟨oc, od, osl, lk, rfl, hcd⟩ hr).ex
    refine ⟨t, pp, ss (env0 N.length [.sc ns]) (0, 0) _ (noT H) H none (ok_first hS hT) _ ?_⟩
    obtain ⟨S', e⟩ := tr ns hl hb
    rw [e]
    intro en σ v F' H' sa k' g' r'
    cases r'.bl_inv
    exact hQ H'
end
end AU
namespace AU
open PySem PySem.Spec PyProof.Rows L2

/-! ### to reckon the mirrors out -/
section
variable {α β : Type}
@[simp] theorem bnd_app (m : M α) (k : α → M β) (S : Sr) : bnd m k S = (match m S with
  | none => none
  | some (.ok x, S') => k x S'
  | some (.error e, S') => some (.error e, S')) := rfl
@[simp] theorem ret_app (x : α) (S : Sr) : (ret x : M α) S = some (.ok x, S) := rfl
@[simp] theorem stk_app (S : Sr) : (stk : M α) S = none := rfl
@[simp] theorem thenS_app (m : Env → M α) (k : α → Env → Sr → Option Out) (env : Env) (S : Sr) : thenS m k env S = (match m env S with
  | none => none
  | some (.ok x, S') => k x env S'
  | some (.error e, S') => some (.ex e env S')) := rfl
@[simp] theorem ne_app (m : M α) (S : Sr) : ne m S = (match m S with
  | some (.ok x, S') => some (.ok x, S')
  | _ => none) := rfl
@[simp] theorem ofO_some (x : α) : (ofO (some x) : M α) = ret x := rfl
end
section
variable (env : Env) (S : Sr)
@[simp] theorem eVar_app (i : Nat) : eVar i env = (match env[i]? with
  | some (some (.d x)) => ret x
  | _ => stk) := rfl
@[simp] theorem eC_app (d : DD) : eC d env = ret d := rfl
@[simp] theorem eOp_app (op : DD → DD → M DD) (a b : Env → M DD) : eOp op a b env = bnd (a env) fun x => bnd (b env) fun y => op x y := rfl
@[simp] theorem aNil_app : aNil env = ret [] := rfl
@[simp] theorem aCons_app (f : Env → M DD) (r : Env → M (List DD)) : aCons f r env = bnd (f env) fun x => bnd (r env) fun xs => ret (x :: xs) := rfl
@[simp] theorem eTup_app (f : Env → M (List DD)) : eTup f env = bnd (f env) fun ds => if szOk ds.length = true then ret (.tup ds) else stk := rfl
@[simp] theorem eLst_app (f : Env → M (List DD)) : eLst f env = bnd (f env) fun ds => if szOk ds.length = true then ret (.lst ds) else stk := rfl
@[simp] theorem oNo_app : oNo env = ret none := rfl
@[simp] theorem oSome_app (f : Env → M DD) : oSome f env = bnd (f env) fun d => match d with
  | .int i => ret (some i)
  | _ => stk := rfl
@[simp] theorem eSl_app (f : Env → M DD) (lo hi : Env → M (Option Int)) : eSl f lo hi env = bnd (f env) fun x => bnd (lo env) fun l => bnd (hi env) fun h => opSl x l h := rfl
@[simp] theorem eB_app (f : List DD → M DD) (as : Env → M (List DD)) : eB f as env = bnd (as env) f := rfl
@[simp] theorem tV_app (f : Env → M DD) : tV f env = bnd (f env) fun d => match d with
  | .bl b => ret b
  | _ => stk := rfl
@[simp] theorem tAnd_app (t u : Env → M Bool) : tAndD t u env = bnd (t env) fun c => if c = true then u env else ret false := rfl
@[simp] theorem tOr_app (t u : Env → M Bool) : tOrD t u env = bnd (t env) fun c => if c = true then ret true else u env := rfl
@[simp] theorem tNot_app (t : Env → M Bool) : tNotD t env = bnd (t env) fun c => ret (!c) := rfl
@[simp] theorem tYes_app : tYesD env = ret true := rfl
@[simp] theorem eAnd_app (f g : Env → M DD) : eAnd f g env = bnd (f env) fun d => match d with
  | .bl true => g env
  | .bl false => ret (.bl false)
  | _ => stk := rfl
@[simp] theorem eOr_app (f g : Env → M DD) : eOr f g env = bnd (f env) fun d => match d with
  | .bl false => g env
  | .bl true => ret (.bl true)
  | _ => stk := rfl
@[simp] theorem eNot_app (f : Env → M DD) : eNot f env = bnd (f env) fun d => match d with
  | .bl b => ret (.bl (!b))
  | _ => stk := rfl
@[simp] theorem eNeg_app (f : Env → M DD) : eNeg f env = bnd (f env) fun d => match d with
  | .int i => ret (.int (-i))
  | _ => stk := rfl
@[simp] theorem eIf_app (t : Env → M Bool) (f g : Env → M DD) : eIf t f g env = bnd (t env) fun c => if c = true then f env else g env := rfl
@[simp] theorem eChain_app (op op' : DD → DD → M DD) (f g h : Env → M DD) : eChain op op' f g h env = bnd (f env) fun x => bnd (g env) fun y => bnd (op x y) fun z => match z with
  | .bl true => bnd (h env) fun w => op' y w
  | .bl false => ret (.bl false)
  | _ => stk := rfl
@[simp] theorem eLc_app (vs : List Nat) (fi : Env → M (List DD)) (fg : Env → DD → Option Env) (ft : Env → M Bool) (fe : Env → M DD) : eLc vs fi fg ft fe env = bnd (fi env) fun items =>
  if szOk items.length = true then bnd (lcD fg ft fe (wipeE env vs) items) fun xs => ret (.lst xs) else stk := rfl
@[simp] theorem wipeE_nil : wipeE env [] = env := rfl
@[simp] theorem wipeE_cons (v : Nat) (vs : List Nat) : wipeE env (v :: vs) = (wipeE env vs).set v none := rfl
@[simp] theorem iNil_app : iNil env = ret [] := rfl
@[simp] theorem iCons_app (f : Env → M DD) (r : Env → M (List It)) : iCons f r env = bnd (f env) fun x => bnd (r env) fun xs => ret (.d x :: xs) := rfl
@[simp] theorem iSrc_app (i : Nat) (r : Env → M (List It)) : iSrc i r env = (match env[i]? with
  | some (some .s) => bnd (r env) fun xs => ret (.s :: xs)
  | some (some (.sc ns)) => bnd (r env) fun xs => ret (.sc ns :: xs)
  | _ => stk) := rfl
@[simp] theorem eCall_app (fn : List It → M DD) (as : Env → M (List It)) : eCall fn as env = bnd (as env) fun its => callM fn its := rfl
@[simp] theorem isS_s : isS .s = true := rfl
@[simp] theorem isS_d (x : DD) : isS (.d x) = false := rfl
@[simp] theorem isS_sc (x : List Int) : isS (.sc x) = false := rfl
@[simp] theorem callM_app (fn : List It → M DD) (its : List It) : callM fn its S = (match its.any isS with
  | true => fn its S
  | false => match fn its (0, 0) with
    | none => none
    | some (r, _) => some (r, S)) := rfl
@[simp] theorem jSeq_app (f : Env → M DD) : jSeq f env = bnd (f env) fun d => match d with
  | .lst xs => ret xs
  | .tup xs => ret xs
  | .dct ks _ => ret ks
  | _ => stk := rfl
@[simp] theorem jRng1_app (f : Env → M (List DD)) : jRng1 f env = bnd (f env) fun ds => match ds with
  | [.int j] => if (decide (-100000 ≤ j) && decide (j ≤ 100000)) = true then ret (rngD 0 j.toNat) else stk
  | _ => stk := rfl
@[simp] theorem jEnum_app (f : Env → M (List DD)) : jEnum f env = bnd (f env) fun ds => match ds with
  | [.lst xs] => ret (enumD 0 xs)
  | [.tup xs] => ret (enumD 0 xs)
  | _ => stk := rfl
@[simp] theorem jZip_app (f : Env → M (List DD)) : jZip f env = bnd (f env) fun ds => match ds with
  | [.lst xs, .lst ys] => ret (zipD xs ys)
  | [.tup xs, .tup ys] => ret (zipD xs ys)
  | _ => stk := rfl
@[simp] theorem sNil_app : sNil env S = some (.nx env S) := rfl
@[simp] theorem sSeq_app (a b : SF) : sSeq a b env S = (match a env S with
  | some (.nx e S') => b e S'
  | o => o) := rfl
@[simp] theorem sExpr_app (f : Env → M DD) : sExpr f env S = thenS f (fun _ env S => some (.nx env S)) env S := rfl
@[simp] theorem sAsg_app (f : Env → M DD) (fg : Env → DD → Option Env) : sAsg f fg env S = thenS f (fun d env S => (fg env d).map fun e => .nx e S) env S := rfl
@[simp] theorem sRet_app (f : Env → M DD) : sRet f env S = thenS f (fun d _ S => some (.rt d S)) env S := rfl
@[simp] theorem sRetNew_app (f : Env → M (List DD)) : sRetNew f env S = thenS f (fun d _ S => some (.rn d S)) env S := rfl
@[simp] theorem sRetN_app : sRetN env S = some (.rt .non S) := rfl
@[simp] theorem sIf_app (t : Env → M Bool) (a b : SF) : sIf t a b env S = thenS t (fun c env S => if c = true then a env S else b env S) env S := rfl
@[simp] theorem sBrk_app : sBrk env S = some (.bk env S) := rfl
@[simp] theorem sCont_app : sCont env S = some (.ct env S) := rfl
@[simp] theorem sRaise_app (k : Nat) : sRaise k env S = some (.ex ⟨k, none⟩ env S) := rfl
@[simp] theorem sFor_app (fi : Env → M (List DD)) (fg : Env → DD → Option Env) (fb : SF) : sFor fi fg fb env S = thenS fi (fun items env S => forD fg fb items env S) env S := rfl
@[simp] theorem sSetL_app (i : Nat) (f : Env → M (List DD)) : sSetL i f env S = thenS f (fun ds env S => some (.nx (env.set i (some (.l ds))) S)) env S := rfl
@[simp] theorem nLst_app (f : Env → M (List DD)) : nLst f env = bnd (f env) fun ds => if szOk ds.length = true then ret ds else stk := rfl
@[simp] theorem pNil_app : pNil env = ret [] := rfl
@[simp] theorem pD_app (f : Env → M DD) (r : Env → M (List It)) : pD f r env = bnd (f env) fun x => bnd (r env) fun xs => ret (.d x :: xs) := rfl
@[simp] theorem pL_app (f : Env → M (List DD)) (r : Env → M (List It)) : pL f r env = bnd (f env) fun x => bnd (r env) fun xs => ret (.l x :: xs) := rfl
@[simp] theorem setIts_nil : setIts env [] [] = some env := rfl
@[simp] theorem setIts_cons (i : Nat) (is : List Nat) (it : It) (its : List It) : setIts env (i :: is) (it :: its) = setIts (env.set i (some it)) is its := rfl
@[simp] theorem sPar_app (is : List Nat) (f : Env → M (List It)) : sPar is f env S = thenS f (fun its env S => (setIts env is its).map fun e => .nx e S) env S := rfl
@[simp] theorem ownG_app (i : Nat) (k : List DD → SF) : ownG i k env S = (match env[i]? with
  | some (some (.l xs)) => k xs env S
  | _ => none) := rfl
@[simp] theorem sApp_app (i : Nat) (f : Env → M DD) : sApp i f = ownG i fun xs => thenS f fun d env S => if szOk (xs.length + 1) = true then some (.nx (env.set i (some (.l (xs ++ [d])))) S) else none := rfl
@[simp] theorem putE_app (f g : Env → M DD) : putE f g env = bnd (f env) fun d => bnd (g env) fun j => ret (d, j) := rfl
@[simp] theorem sPut_app (i : Nat) (f g : Env → M DD) : sPut i f g = ownG i fun xs => thenS (putE f g) (putK i xs) := rfl
@[simp] theorem eOwn_app (i : Nat) (k : List DD → Env → M DD) : eOwn i k env = (match env[i]? with
  | some (some (.l xs)) => k xs env
  | _ => stk) := rfl
@[simp] theorem eIxL_app (i : Nat) (g : Env → M DD) : eIxL i g = eOwn i fun xs env => bnd (g env) fun j => opIx (.lst xs) j := rfl
@[simp] theorem eLenL_app (i : Nat) : eLenL i = eOwn i fun xs _ => ret (.int xs.length) := rfl
@[simp] theorem eSrc_app (i : Nat) (j : Bool) : eSrc i j env S = (match env[i]? with
  | some (some .s) => some (.ok (.int (if j = true then S.2 else S.1)), S)
  | _ => none) := rfl
@[simp] theorem sSrcPut_app (i : Nat) (j : Bool) (f : Env → M DD) : sSrcPut i j f env S = thenS f (fun d env S => match env[i]?, d with
  | some (some .s), .int z => some (.nx env (if j = true then (S.1, z) else (z, S.2)))
  | _, _ => none) env S := rfl
@[simp] theorem eScAt_app (i : Nat) (g : Env → M DD) : eScAt i g env = (match env[i]? with
  | some (some (.sc ns)) => bnd (g env) fun d => match d with
    | .int z => ofO ((atI ns z).map DD.int)
    | _ => stk
  | _ => stk) := rfl
@[simp] theorem eScLen_app (i : Nat) : eScLen i env = (match env[i]? with
  | some (some (.sc ns)) => ret (.int ns.length)
  | _ => stk) := rfl
@[simp] theorem sFrz_app (i : Nat) (s : SF) : sFrz i s env S = (match env[i]? with
  | some (some (.l xs)) => s (env.set i (some (.d (.lst xs)))) S
  | some (some (.m ks vs)) => s (env.set i (some (.d (.dct ks vs)))) S
  | some (some (.d (.lst xs))) => s env S
  | some (some (.d (.dct ks vs))) => s env S
  | _ => none) := rfl
@[simp] theorem sSetM_app (i : Nat) (f : Env → M (List DD × List DD)) : sSetM i f env S = thenS f (fun r env S => some (.nx (env.set i (some (.m r.1 r.2))) S)) env S := rfl
@[simp] theorem ownGM_app (i : Nat) (k : List DD → List DD → SF) : ownGM i k env S = (match env[i]? with
  | some (some (.m ks vs)) => k ks vs env S
  | _ => none) := rfl
@[simp] theorem sPutM_app (i : Nat) (f g : Env → M DD) : sPutM i f g = ownGM i fun ks vs => thenS (putE f g) (putKM i ks vs) := rfl
@[simp] theorem eOwnM_app (i : Nat) (k : List DD → List DD → Env → M DD) : eOwnM i k env = (match env[i]? with
  | some (some (.m ks vs)) => k ks vs env
  | _ => stk) := rfl
@[simp] theorem eGetM_app (i : Nat) (g : Env → M DD) : eGetM i g = eOwnM i fun ks vs env => bnd (g env) fun j => getDD ks vs j := rfl
@[simp] theorem eInM_app (c : Bool) (i : Nat) (g : Env → M DD) : eInM c i g env = bnd (g env) fun j => match env[i]? with
  | some (some (.m ks vs)) => inDD c ks vs j
  | _ => stk := rfl
@[simp] theorem mNew_app : mNew env = ret ([], []) := rfl
@[simp] theorem mDict_app (f : Env → M (List DD)) : mDict f env = bnd (f env) fun ds => match ds with
  | [.lst ps] => match pairsD ps with
    | some l => ret (putAllD ([], []) l)
    | none => stk
  | _ => stk := rfl
@[simp] theorem eDict_app (f : Env → M (List DD)) : eDict f env = bnd (mDict f env) fun r => ret (.dct r.1 r.2) := rfl
@[simp] theorem pM_app (f : Env → M (List DD × List DD)) (r : Env → M (List It)) : pM f r env = bnd (f env) fun x => bnd (r env) fun xs => ret (.m x.1 x.2 :: xs) := rfl
@[simp] theorem gN_app (i : Nat) (d : DD) : gN i env d = some (env.set i (some (.d d))) := rfl
@[simp] theorem gsN_app : gsN env [] = some env := rfl
@[simp] theorem nCall_app (fn : List It → M (List DD)) (as : Env → M (List It)) : nCall fn as env = bnd (as env) fun its => fun S => match its.any isS with
  | true => none
  | false => match fn its (0, 0) with
    | none => none
    | some (r, _) => some (r, S) := rfl
@[simp] theorem sSrcNew_app (i : Nat) (fn : Env → M (List DD)) : sSrcNew i fn env S = thenS fn (fun ds env S => match ds with
  | [.int a, .int b] => if noS (env.set i none) = true then some (.nx (env.set i (some .s)) (a, b)) else none
  | _ => none) env S := rfl
@[simp] theorem eWord_app (nx : Nat) (cl : List (Nat × Str)) (fb : Env → M DD) : eWord nx cl fb env S = (match fb env S with
  | some (.ok _, S') => some (.ok (.str ""), S')
  | some (.error e, S') => if e.k < nx then (match cl.lookup e.k with
    | some w => some (.ok (.str w), S')
    | none => none) else none
  | none => none) := rfl
@[simp] theorem eCallL_app (i : Nat) (tab : Addr → Option (List It → M DD)) (as : Env → M (List It)) : eCallL i tab as env = (match env[i]? with
  | some (some (.d (.raw (.ref f)))) => (match tab f with
    | some fn => eCall fn as env
    | none => stk)
  | _ => stk) := rfl
end
@[simp] theorem gT_app (n : Nat) (f : Env → List DD → Option Env) (env : Env) (ds : List DD) : gT n f env (.tup ds) = if ds.length = n then f env ds else none := by
  unfold gT
  rfl
@[simp] theorem gsC_app (g : Env → DD → Option Env) (r : Env → List DD → Option Env) (env : Env) (d : DD) (ds : List DD) : gsC g r env (d :: ds) = (g env d).bind fun e => r e ds := by
  unfold gsC
  rfl
@[simp] theorem opAdd_int (i j : Int) : opAdd (.int i) (.int j) = ret (.int (i + j)) := rfl
@[simp] theorem opAdd_lst (x y : List DD) : opAdd (.lst x) (.lst y) = if szOk (x.length + y.length) = true then ret (.lst (x ++ y)) else stk := rfl
@[simp] theorem opAdd_tup (x y : List DD) : opAdd (.tup x) (.tup y) = if szOk (x.length + y.length) = true then ret (.tup (x ++ y)) else stk := rfl
@[simp] theorem opSub_int (i j : Int) : opSub (.int i) (.int j) = ret (.int (i - j)) := rfl
@[simp] theorem opMul_int (i j : Int) : opMul (.int i) (.int j) = if (decide (i.natAbs < 2 ^ 64) || decide (j.natAbs < 2 ^ 64)) = true then ret (.int (i * j)) else stk := rfl
@[simp] theorem opDiv_int (i j : Int) : opDiv (.int i) (.int j) = if cDiv i j = true then ret (.int (i / j)) else stk := rfl
@[simp] theorem opMod_int (i j : Int) : opMod (.int i) (.int j) = if decide (0 < j) = true then ret (.int (i % j)) else stk := rfl
@[simp] theorem opLt_int (i j : Int) : opLt (.int i) (.int j) = ret (.bl (decide (i < j))) := rfl
@[simp] theorem opLe_int (i j : Int) : opLe (.int i) (.int j) = ret (.bl (decide (i ≤ j))) := rfl
@[simp] theorem opGt_int (i j : Int) : opGt (.int i) (.int j) = ret (.bl (decide (j < i))) := rfl
@[simp] theorem opGe_int (i j : Int) : opGe (.int i) (.int j) = ret (.bl (decide (j ≤ i))) := rfl
@[simp] theorem szOk_0 : szOk 0 = true := rfl
@[simp] theorem szOk_1 : szOk 1 = true := rfl
@[simp] theorem szOk_2 : szOk 2 = true := rfl
@[simp] theorem szOk_3 : szOk 3 = true := rfl
@[simp] theorem szOk_4 : szOk 4 = true := rfl
@[simp] theorem szOk_5 : szOk 5 = true := rfl
@[simp] theorem szOk_6 : szOk 6 = true := rfl
@[simp] theorem szOk_7 : szOk 7 = true := rfl
@[simp] theorem szOk_8 : szOk 8 = true := rfl
@[simp] theorem szOk_9 : szOk 9 = true := rfl
@[simp] theorem szOk_10 : szOk 10 = true := rfl
@[simp] theorem szOk_11 : szOk 11 = true := rfl
@[simp] theorem szOk_12 : szOk 12 = true := rfl
@[simp] theorem szOk_13 : szOk 13 = true := rfl
@[simp] theorem szOk_14 : szOk 14 = true := rfl
@[simp] theorem szOk_15 : szOk 15 = true := rfl
@[simp] theorem szOk_16 : szOk 16 = true := rfl
@[simp] theorem szOk_17 : szOk 17 = true := rfl
@[simp] theorem szOk_18 : szOk 18 = true := rfl
@[simp] theorem szOk_19 : szOk 19 = true := rfl
@[simp] theorem szOk_20 : szOk 20 = true := rfl
@[simp] theorem szOk_21 : szOk 21 = true := rfl
@[simp] theorem szOk_22 : szOk 22 = true := rfl
@[simp] theorem szOk_23 : szOk 23 = true := rfl
@[simp] theorem szOk_24 : szOk 24 = true := rfl
@[simp] theorem szOk_25 : szOk 25 = true := rfl
@[simp] theorem szOk_26 : szOk 26 = true := rfl
@[simp] theorem szOk_27 : szOk 27 = true := rfl
@[simp] theorem szOk_28 : szOk 28 = true := rfl
@[simp] theorem szOk_29 : szOk 29 = true := rfl
@[simp] theorem szOk_30 : szOk 30 = true := rfl
@[simp] theorem szOk_31 : szOk 31 = true := rfl
@[simp] theorem szOk_32 : szOk 32 = true := rfl
@[simp] theorem szOk_33 : szOk 33 = true := rfl
@[simp] theorem szOk_34 : szOk 34 = true := rfl
@[simp] theorem szOk_35 : szOk 35 = true := rfl
@[simp] theorem szOk_36 : szOk 36 = true := rfl
@[simp] theorem szOk_37 : szOk 37 = true := rfl
@[simp] theorem szOk_38 : szOk 38 = true := rfl
@[simp] theorem szOk_39 : szOk 39 = true := rfl
@[simp] theorem szOk_40 : szOk 40 = true := rfl
/-! kinds -/
@[simp] def plain1 : DD → Bool
  | .raw _ => false
  | .dct _ _ => false
  | .set _ => false
  | _ => true
@[simp] def isI : DD → Bool
  | .int _ => true
  | .bl _ => true
  | _ => false
@[simp] def isBo : DD → Bool
  | .bl _ => true
  | _ => false
@[simp] def isSt : DD → Bool
  | .str _ => true
  | _ => false
@[simp] def isTu : DD → Bool
  | .tup _ => true
  | _ => false
@[simp] def isLi : DD → Bool
  | .lst _ => true
  | _ => false
theorem kit_ : (["NoneType", "bool", "int", "str", "list", "tuple"].all fun t => decide (kitB t "int" = some (t == "int" || t == "bool")) && decide (kitB t "bool" = some (t == "bool")) && decide (kitB t "str" = some (t == "str")) && decide (kitB t "tuple" = some (t == "tuple")) && decide (kitB t "list" = some (t == "list"))) = true := by kernel_rfl
theorem kit_at {t : String} (h : t ∈ ["NoneType", "bool", "int", "str", "list", "tuple"]) : kitB t "int" = some (t == "int" || t == "bool") ∧ kitB t "bool" = some (t == "bool") ∧ kitB t "str" = some (t == "str") ∧ kitB t "tuple" = some (t == "tuple") ∧ kitB t "list" = some (t == "list") := by
  have z := List.all_eq_true.mp kit_ t h
  simp only [Bool.and_eq_true, decide_eq_true_eq] at z
  obtain ⟨⟨⟨⟨h1, h2⟩, h3⟩, h4⟩, h5⟩ := z
  exact ⟨h1, h2, h3, h4, h5⟩
theorem bIsi_of {v : DD} {t n : String} {b : Bool} (ht : tyName v = some t) (hk : kitB t n = some b) : bIsi [v, .raw (.ty n)] = ret (.bl b) := by
  unfold bIsi
  simp only [ht, hk]
theorem bIsi_int (v : DD) (h : plain1 v = true) : bIsi [v, .raw (.ty "int")] = ret (.bl (isI v)) := by
  cases v <;> first | (cases h; done) | exact bIsi_of rfl (kit_at (by decide)).1
theorem bIsi_bool (v : DD) (h : plain1 v = true) : bIsi [v, .raw (.ty "bool")] = ret (.bl (isBo v)) := by
  cases v <;> first | (cases h; done) | exact bIsi_of rfl (kit_at (by decide)).2.1
theorem bIsi_str (v : DD) (h : plain1 v = true) : bIsi [v, .raw (.ty "str")] = ret (.bl (isSt v)) := by
  cases v <;> first | (cases h; done) | exact bIsi_of rfl (kit_at (by decide)).2.2.1
theorem bIsi_tup (v : DD) (h : plain1 v = true) : bIsi [v, .raw (.ty "tuple")] = ret (.bl (isTu v)) := by
  cases v <;> first | (cases h; done) | exact bIsi_of rfl (kit_at (by decide)).2.2.2.1
theorem bIsi_lst (v : DD) (h : plain1 v = true) : bIsi [v, .raw (.ty "list")] = ret (.bl (isLi v)) := by
  cases v <;> first | (cases h; done) | exact bIsi_of rfl (kit_at (by decide)).2.2.2.2
@[simp] theorem bIsi_int_non : bIsi [.non, .raw (.ty "int")] = ret (.bl false) := bIsi_int _ rfl
@[simp] theorem bIsi_int_bl (b : Bool) : bIsi [(.bl b), .raw (.ty "int")] = ret (.bl true) := bIsi_int _ rfl
@[simp] theorem bIsi_int_int (i : Int) : bIsi [(.int i), .raw (.ty "int")] = ret (.bl true) := bIsi_int _ rfl
@[simp] theorem bIsi_int_str (s : Str) : bIsi [(.str s), .raw (.ty "int")] = ret (.bl false) := bIsi_int _ rfl
@[simp] theorem bIsi_int_lst (xs : List DD) : bIsi [(.lst xs), .raw (.ty "int")] = ret (.bl false) := bIsi_int _ rfl
@[simp] theorem bIsi_int_tup (xs : List DD) : bIsi [(.tup xs), .raw (.ty "int")] = ret (.bl false) := bIsi_int _ rfl
@[simp] theorem bIsi_bool_non : bIsi [.non, .raw (.ty "bool")] = ret (.bl false) := bIsi_bool _ rfl
@[simp] theorem bIsi_bool_bl (b : Bool) : bIsi [(.bl b), .raw (.ty "bool")] = ret (.bl true) := bIsi_bool _ rfl
@[simp] theorem bIsi_bool_int (i : Int) : bIsi [(.int i), .raw (.ty "bool")] = ret (.bl false) := bIsi_bool _ rfl
@[simp] theorem bIsi_bool_str (s : Str) : bIsi [(.str s), .raw (.ty "bool")] = ret (.bl false) := bIsi_bool _ rfl
@[simp] theorem bIsi_bool_lst (xs : List DD) : bIsi [(.lst xs), .raw (.ty "bool")] = ret (.bl false) := bIsi_bool _ rfl
@[simp] theorem bIsi_bool_tup (xs : List DD) : bIsi [(.tup xs), .raw (.ty "bool")] = ret (.bl false) := bIsi_bool _ rfl
@[simp] theorem bIsi_str_non : bIsi [.non, .raw (.ty "str")] = ret (.bl false) := bIsi_str _ rfl
@[simp] theorem bIsi_str_bl (b : Bool) : bIsi [(.bl b), .raw (.ty "str")] = ret (.bl false) := bIsi_str _ rfl
@[simp] theorem bIsi_str_int (i : Int) : bIsi [(.int i), .raw (.ty "str")] = ret (.bl false) := bIsi_str _ rfl
@[simp] theorem bIsi_str_str (s : Str) : bIsi [(.str s), .raw (.ty "str")] = ret (.bl true) := bIsi_str _ rfl
@[simp] theorem bIsi_str_lst (xs : List DD) : bIsi [(.lst xs), .raw (.ty "str")] = ret (.bl false) := bIsi_str _ rfl
@[simp] theorem bIsi_str_tup (xs : List DD) : bIsi [(.tup xs), .raw (.ty "str")] = ret (.bl false) := bIsi_str _ rfl
@[simp] theorem bIsi_tup_non : bIsi [.non, .raw (.ty "tuple")] = ret (.bl false) := bIsi_tup _ rfl
@[simp] theorem bIsi_tup_bl (b : Bool) : bIsi [(.bl b), .raw (.ty "tuple")] = ret (.bl false) := bIsi_tup _ rfl
@[simp] theorem bIsi_tup_int (i : Int) : bIsi [(.int i), .raw (.ty "tuple")] = ret (.bl false) := bIsi_tup _ rfl
@[simp] theorem bIsi_tup_str (s : Str) : bIsi [(.str s), .raw (.ty "tuple")] = ret (.bl false) := bIsi_tup _ rfl
@[simp] theorem bIsi_tup_lst (xs : List DD) : bIsi [(.lst xs), .raw (.ty "tuple")] = ret (.bl false) := bIsi_tup _ rfl
@[simp] theorem bIsi_tup_tup (xs : List DD) : bIsi [(.tup xs), .raw (.ty "tuple")] = ret (.bl true) := bIsi_tup _ rfl
@[simp] theorem bIsi_lst_non : bIsi [.non, .raw (.ty "list")] = ret (.bl false) := bIsi_lst _ rfl
@[simp] theorem bIsi_lst_bl (b : Bool) : bIsi [(.bl b), .raw (.ty "list")] = ret (.bl false) := bIsi_lst _ rfl
@[simp] theorem bIsi_lst_int (i : Int) : bIsi [(.int i), .raw (.ty "list")] = ret (.bl false) := bIsi_lst _ rfl
@[simp] theorem bIsi_lst_str (s : Str) : bIsi [(.str s), .raw (.ty "list")] = ret (.bl false) := bIsi_lst _ rfl
@[simp] theorem bIsi_lst_lst (xs : List DD) : bIsi [(.lst xs), .raw (.ty "list")] = ret (.bl true) := bIsi_lst _ rfl
@[simp] theorem bIsi_lst_tup (xs : List DD) : bIsi [(.tup xs), .raw (.ty "list")] = ret (.bl false) := bIsi_lst _ rfl
@[simp] theorem bLen_lst (xs : List DD) : bLen [.lst xs] = ret (.int xs.length) := rfl
@[simp] theorem bLen_tup (xs : List DD) : bLen [.tup xs] = ret (.int xs.length) := rfl
@[simp] theorem bInt_int (i : Int) : bInt [.int i] = ret (.int i) := rfl
@[simp] theorem bInt_bl (b : Bool) : bInt [.bl b] = ret (.int (if b then 1 else 0)) := rfl
@[simp] theorem b2I_app (g : Int → Int → Int) (i j : Int) : b2I g [.int i, .int j] = ret (.int (g i j)) := rfl
@[simp] theorem bTuple_lst (xs : List DD) : bTuple [.lst xs] = ret (.tup xs) := rfl
@[simp] theorem bTuple_tup (xs : List DD) : bTuple [.tup xs] = ret (.tup xs) := rfl
@[simp] theorem bList_lst (xs : List DD) : bList [.lst xs] = ret (.lst xs) := rfl
@[simp] theorem bList_tup (xs : List DD) : bList [.tup xs] = ret (.lst xs) := rfl
@[simp] theorem opIx_dct' (ks vs : List DD) (y : DD) : opIx (.dct ks vs) y = getDD ks vs y := opIx_dct ks vs y
@[simp] theorem opIx_lst (xs : List DD) (i : Int) : opIx (.lst xs) (.int i) = ofO (atI xs i) := rfl
@[simp] theorem opIx_tup (xs : List DD) (i : Int) : opIx (.tup xs) (.int i) = ofO (atI xs i) := rfl
@[simp] theorem opSl_lst (xs : List DD) (lo hi : Option Int) : opSl (.lst xs) lo hi = ret (.lst (cutD xs lo hi)) := rfl
@[simp] theorem opSl_tup (xs : List DD) (lo hi : Option Int) : opSl (.tup xs) lo hi = ret (.tup (cutD xs lo hi)) := rfl
theorem blsOf_map (bs : List Bool) : blsOf (bs.map DD.bl) = some bs := by
  induction bs with
  | nil => rfl
  | cons b bs ih => simp [blsOf, ih]
@[simp] theorem bAll_bls (bs : List Bool) : bAll [.lst (bs.map DD.bl)] = ret (.bl (bs.all id)) := by
  unfold bAll
  simp only [blsOf_map]
@[simp] theorem bAny_bls (bs : List Bool) : bAny [.lst (bs.map DD.bl)] = ret (.bl (bs.any id)) := by
  unfold bAny
  simp only [blsOf_map]
theorem atI_nat {xs : List DD} {i : Nat} {d : DD} (h : xs[i]? = some d) : atI xs (i : Int) = some d := by
  have hl := (List.getElem?_eq_some_iff.mp h).1
  have e : ixN xs.length (i : Int) = some i := by
    unfold ixN
    rw [if_pos (by omega), if_pos (by omega)]
    simp
  unfold L2.atI
  rw [e]
  exact h
/-! ### == of data -/
def okN (n : Nat) (d : DD) : Bool := d.pure && d.py.canLay0 && decide (d.py.depth ≤ n)
theorem okN_int {n : Nat} (i : Int) : okN n (.int i) = true := by simp [okN, DD.pure, DD.py, PyData.canLay0, PyData.depth]
theorem okN_bl {n : Nat} (i : Bool) : okN n (.bl i) = true := by simp [okN, DD.pure, DD.py, PyData.canLay0, PyData.depth]
theorem okN_non {n : Nat} : okN n .non = true := by simp [okN, DD.pure, DD.py, PyData.canLay0, PyData.depth]
theorem okN_str {n : Nat} {x : Str} (h : PyData.strOk x = true) : okN n (.str x) = true := by simp [okN, DD.pure, DD.py, PyData.canLay0, PyData.depth, h]
theorem okA {n : Nat} : ∀ (xs : List DD), (∀ x ∈ xs, okN n x = true) → DD.pureA xs = true ∧ PyData.canLayAll0 (DD.pyA xs) = true ∧ PyData.depthAll (DD.pyA xs) ≤ n
  | [], _ => by simp [DD.pureA, DD.pyA, PyData.canLayAll0, PyData.depthAll]
  | x :: xs, h => by
    obtain ⟨h1, h2, h3⟩ := okA xs fun y hy => h y (List.mem_cons_of_mem _ hy)
    have h0 := h x List.mem_cons_self
    simp only [okN, Bool.and_eq_true, decide_eq_true_eq] at h0
    obtain ⟨⟨a, b⟩, c⟩ := h0
    refine ⟨by simp [DD.pureA, a, h1], by simp [DD.pyA, PyData.canLayAll0, b, h2], ?_⟩
    simp only [DD.pyA, PyData.depthAll]
    omega
theorem okN_lst {n : Nat} {xs : List DD} (h : ∀ x ∈ xs, okN n x = true) : okN (n + 1) (.lst xs) = true := by
  obtain ⟨h1, h2, h3⟩ := okA xs h
  simp [okN, DD.pure, DD.py, PyData.canLay0, PyData.depth, h1, h2, h3]
theorem okN_tup {n : Nat} {xs : List DD} (h : ∀ x ∈ xs, okN n x = true) : okN (n + 1) (.tup xs) = true := by
  obtain ⟨h1, h2, h3⟩ := okA xs h
  simp [okN, DD.pure, DD.py, PyData.canLay0, PyData.depth, h1, h2, h3]
theorem okN_mono {n m : Nat} {d : DD} (h : n ≤ m) (k : okN n d = true) : okN m d = true := by
  simp only [okN, Bool.and_eq_true, decide_eq_true_eq] at k ⊢
  exact ⟨k.1, by omega⟩
theorem eqOk_of {n : Nat} {d : DD} (k : okN n d = true) (h : n ≤ 64 := by decide) : eqOk d = true := by
  simp only [okN, Bool.and_eq_true, decide_eq_true_eq] at k
  simp only [eqOk, SeqAt.shaped, Bool.and_eq_true, decide_eq_true_eq]
  exact ⟨k.1.1, k.1.2, by omega⟩
mutual
theorem eqv_refl : ∀ d : DD, PyData.eqv d.py d.py = true
  | .non => by simp [DD.py, PyData.eqv]
  | .bl _ => by simp [DD.py, PyData.eqv]
  | .int _ => by simp [DD.py, PyData.eqv]
  | .str _ => by simp [DD.py, PyData.eqv]
  | .lst xs => by simp only [DD.py, PyData.eqv]; exact eqvA_refl xs
  | .tup xs => by simp only [DD.py, PyData.eqv]; exact eqvA_refl xs
  | .raw _ => by simp [DD.py, PyData.eqv]
  | .dct _ _ => by simp [DD.py, PyData.eqv]
  | .set _ => by simp [DD.py, PyData.eqv]
theorem eqvA_refl : ∀ ds : List DD, PyData.eqvAll (DD.pyA ds) (DD.pyA ds) = true
  | [] => by simp [DD.pyA, PyData.eqvAll]
  | d :: ds => by simp only [DD.pyA, PyData.eqvAll, eqv_refl d, eqvA_refl ds]; rfl
end
theorem opEq_of {x y : DD} (hx : eqOk x = true) (hy : eqOk y = true) : opEq x y = ret (.bl (PyData.eqv x.py y.py)) := by
  unfold opEq
  rw [if_pos (by rw [hx, hy]; rfl)]
theorem opNe_of {x y : DD} (hx : eqOk x = true) (hy : eqOk y = true) : opNe x y = ret (.bl (!PyData.eqv x.py y.py)) := by
  unfold opNe
  rw [if_pos (by rw [hx, hy]; rfl)]
theorem opEq_self {x : DD} (hx : eqOk x = true) : opEq x x = ret (.bl true) := by rw [opEq_of hx hx, eqv_refl]
theorem opNe_self {x : DD} (hx : eqOk x = true) : opNe x x = ret (.bl false) := by rw [opNe_of hx hx, eqv_refl]; rfl
theorem eqv_int (i j : Int) : PyData.eqv (.int i) (.int j) = decide (i = j) := Bool.eq_iff_iff.mpr (by simp [PyData.eqv])
theorem eqv_str (i j : Str) : PyData.eqv (.str i) (.str j) = decide (i = j) := Bool.eq_iff_iff.mpr (by simp [PyData.eqv])
@[simp] theorem opEq_int (i j : Int) : opEq (.int i) (.int j) = ret (.bl (decide (i = j))) := by
  rw [opEq_of (eqOk_of (okN_int (n := 0) i)) (eqOk_of (okN_int (n := 0) j))]
  exact congrArg (fun b => ret (DD.bl b)) (eqv_int i j)
@[simp] theorem opNe_int (i j : Int) : opNe (.int i) (.int j) = ret (.bl (!decide (i = j))) := by
  rw [opNe_of (eqOk_of (okN_int (n := 0) i)) (eqOk_of (okN_int (n := 0) j))]
  exact congrArg (fun b => ret (DD.bl (!b))) (eqv_int i j)
@[simp] theorem opEq_str {i j : Str} (hi : PyData.strOk i = true) (hj : PyData.strOk j = true) : opEq (.str i) (.str j) = ret (.bl (decide (i = j))) := by
  rw [opEq_of (eqOk_of (okN_str (n := 0) hi)) (eqOk_of (okN_str (n := 0) hj))]
  exact congrArg (fun b => ret (DD.bl b)) (eqv_str i j)
@[simp] theorem opNe_str {i j : Str} (hi : PyData.strOk i = true) (hj : PyData.strOk j = true) : opNe (.str i) (.str j) = ret (.bl (!decide (i = j))) := by
  rw [opNe_of (eqOk_of (okN_str (n := 0) hi)) (eqOk_of (okN_str (n := 0) hj))]
  exact congrArg (fun b => ret (DD.bl (!b))) (eqv_str i j)
@[simp] theorem opEq_bl (i j : Bool) : opEq (.bl i) (.bl j) = ret (.bl (decide (i = j))) := by
  rw [opEq_of (eqOk_of (okN_bl (n := 0) i)) (eqOk_of (okN_bl (n := 0) j))]
  exact congrArg (fun b => ret (DD.bl b)) (Bool.eq_iff_iff.mpr (by simp [DD.py, PyData.eqv]))
theorem mem_strs (x : Str) : ∀ xs : List Str, memD (.str x) (xs.map DD.str) = decide (x ∈ xs)
  | [] => rfl
  | y :: ys => by
    have ih := mem_strs x ys
    have e : memD (.str x) ((y :: ys).map DD.str) = (PyData.eqv (.str y) (.str x) || memD (.str x) (ys.map DD.str)) := rfl
    rw [e, ih, eqv_str]
    by_cases h : y = x
    · subst h
      simp
    · have h' : ¬ x = y := fun z => h z.symm
      simp [h, h']
theorem opNotIn_strs {x : Str} {xs : List Str} (hx : PyData.strOk x = true) (hs : ∀ y ∈ xs, PyData.strOk y = true) : opNotIn (.str x) (.tup (xs.map DD.str)) = ret (.bl (!decide (x ∈ xs))) := by
  show (if (eqOk (.str x) && eqOk (.tup (xs.map DD.str))) = true then ret (.bl (true != memD (.str x) (xs.map DD.str))) else (stk : M DD)) = _
  rw [if_pos, mem_strs]
  · rw [Bool.true_bne]
  · rw [eqOk_of (okN_str (n := 0) hx), eqOk_of (n := 1) (okN_tup fun d hd => ?_)]
    · rfl
    · obtain ⟨y, hy, rfl⟩ := List.mem_map.mp hd
      exact okN_str (hs y hy)
/-! ### loops -/
theorem forD_inv {fg : Env → DD → Option Env} {fb : SF} (I : Nat → Env → Sr → Prop) : ∀ (items : List DD) (k : Nat) (env : Env) (S : Sr), I k env S →
    (∀ i d env S, items[i]? = some d → I (k + i) env S → ∃ e1, fg env d = some e1 ∧ ∃ e2 S2, (fb e1 S = some (.nx e2 S2) ∨ fb e1 S = some (.ct e2 S2)) ∧ I (k + i + 1) e2 S2) → ∃ e S', forD fg fb items env S = some (.nx e S') ∧ I (k + items.length) e S'
  | [], k, env, S, h, _ => ⟨env, S, rfl, h⟩
  | d :: ds, k, env, S, h, hs => by
    obtain ⟨e1, h1, e2, S2, h2, h3⟩ := hs 0 d env S rfl h
    obtain ⟨e, S', h4, h5⟩ := forD_inv I ds (k + 1) e2 S2 h3 fun i d env S hi hI => by
      have := hs (i + 1) d env S hi (by rw [show k + (i + 1) = k + 1 + i by omega]; exact hI)
      rw [show k + (i + 1) + 1 = k + 1 + i + 1 by omega] at this
      exact this
    refine ⟨e, S', ?_, by rw [List.length_cons, show k + (ds.length + 1) = k + 1 + ds.length by omega]; exact h5⟩
    unfold forD
    rw [h1]
    rcases h2 with h2 | h2 <;> (simp only [h2]; exact h4)
/-- a comprehension whose test and element are told item by item -/
theorem lcD_eq {fg : Env → DD → Option Env} {ft : Env → M Bool} {fe : Env → M DD} {env : Env} {S : Sr} (p : DD → Bool) (g : DD → DD) : ∀ items : List DD, (∀ d ∈ items, ∃ e, fg env d = some e ∧ ft e S = some (.ok (p d), S) ∧ (p d = true → fe e S = some (.ok (g d), S))) →
    lcD fg ft fe env items S = some (.ok ((items.filter p).map g), S)
  | [], _ => rfl
  | d :: ds, h => by
    obtain ⟨e, h1, h2, h3⟩ := h d List.mem_cons_self
    have ih := lcD_eq (S := S) p g ds fun d hd => h d (List.mem_cons_of_mem _ hd)
    unfold lcD
    rw [h1]
    cases hp : p d with
    | true => simp [hp, h2, h3 hp, ih, List.filter_cons]
    | false => simp [hp, h2, ih, List.filter_cons]
/-- a comprehension over items told by others -/
theorem lcD_filF {α : Type} {fg : Env → DD → Option Env} {ft : Env → M Bool} {fe : Env → M DD} {env : Env} {S : Sr} {h : α → DD} (p : α → Bool) (g : α → DD) : ∀ {l : List α}, (∀ x ∈ l, ∃ e, fg env (h x) = some e ∧ ft e S = some (.ok (p x), S) ∧ (p x = true → fe e S = some (.ok (g x), S))) →
    lcD fg ft fe env (l.map h) S = some (.ok ((l.filter p).map g), S)
  | [], _ => rfl
  | d :: ds, hh => by
    obtain ⟨e, h1, h2, h3⟩ := hh d List.mem_cons_self
    have ih := lcD_filF (S := S) p g (l := ds) fun d hd => hh d (List.mem_cons_of_mem _ hd)
    rw [List.map_cons]
    unfold lcD
    rw [h1]
    cases hp : p d with
    | true => simp [hp, h2, h3 hp, ih, List.filter_cons]
    | false => simp [hp, h2, ih, List.filter_cons]
theorem lcD_mapF {α : Type} {fg : Env → DD → Option Env} {fe : Env → M DD} {env : Env} {S : Sr} {h : α → DD} (g : α → DD) {l : List α} (hh : ∀ x ∈ l, ∃ e, fg env (h x) = some e ∧ fe e S = some (.ok (g x), S)) :
    lcD fg tYesD fe env (l.map h) S = some (.ok (l.map g), S) := by
  have z := lcD_filF (fg := fg) (ft := tYesD) (fe := fe) (env := env) (S := S) (h := h) (fun _ => true) g (l := l) fun x hx => by
    obtain ⟨e, h1, h2⟩ := hh x hx
    exact ⟨e, h1, rfl, fun _ => h2⟩
  rw [List.filter_eq_self.mpr (fun _ _ => rfl)] at z
  exact z
theorem bAll_map {α : Type} (l : List α) (p : α → Bool) : bAll [.lst (l.map fun x => DD.bl (p x))] = ret (.bl (l.all p)) := by
  have z := bAll_bls (l.map p)
  rw [List.map_map] at z
  rw [show (fun x => DD.bl (p x)) = DD.bl ∘ p from rfl, z]
  congr 2
  induction l with
  | nil => rfl
  | cons x l ih => simp
theorem bAny_map {α : Type} (l : List α) (p : α → Bool) : bAny [.lst (l.map fun x => DD.bl (p x))] = ret (.bl (l.any p)) := by
  have z := bAny_bls (l.map p)
  rw [List.map_map] at z
  rw [show (fun x => DD.bl (p x)) = DD.bl ∘ p from rfl, z]
  congr 2
  induction l with
  | nil => rfl
  | cons x l ih => simp
theorem enumZ : ∀ (k : Nat) (xs : List DD), enumD k xs = ((List.range' k xs.length).zip xs).map fun p => .tup [.int (p.1 : Nat), p.2]
  | _, [] => rfl
  | k, x :: xs => by
    unfold enumD
    rw [enumZ (k + 1) xs]
    simp [List.range'_succ]
end AU
namespace AU
open PySem PySem.Spec PyProof.Rows L2 PySem.Calls

/-! ### every second item of a tuple -/
def idx2 (n c : Nat) : List Nat := (List.range (Builtin.Slice.slicePlaces ((min c n : Nat) : Int) (n : Int) 2)).map fun (m : Nat) => (((min c n : Nat) : Int) + (m : Int) * 2).toNat
def cut2 {α : Type} (xs : List α) (c : Nat) : List α := (idx2 xs.length c).filterMap (xs[·]?)
theorem idx2_len (n c : Nat) : (idx2 n c).length ≤ n := by
  unfold idx2 Builtin.Slice.slicePlaces
  rw [List.length_map, List.length_range]
  simp only [show ((2 : Int) > 0) from by decide, if_true]
  split <;> omega
theorem cut2_len {α : Type} (xs : List α) (c : Nat) : (cut2 xs c).length ≤ xs.length := by
  unfold cut2
  exact Nat.le_trans (List.length_filterMap_le _ _) (idx2_len _ _)
theorem vals_pick {vs : List V} {us : List Value} (r : Vals vs us) : ∀ is : List Nat, Vals (is.filterMap (vs[·]?)) (is.filterMap (us[·]?))
  | [] => .nil
  | i :: is => by
    have ih := vals_pick r is
    have hl := r.length
    by_cases h : i < vs.length
    · have h2 : i < us.length := by rw [← hl]; exact h
      rw [List.filterMap_cons_some (List.getElem?_eq_getElem h), List.filterMap_cons_some (List.getElem?_eq_getElem h2)]
      obtain ⟨u, e, ru⟩ := Vals.get r (List.getElem?_eq_getElem h)
      rw [List.getElem?_eq_getElem h2] at e
      cases e
      exact .cons ru ih
    · rw [List.filterMap_cons_none (List.getElem?_eq_none (by omega)), List.filterMap_cons_none (List.getElem?_eq_none (by omega))]
      exact ih
theorem rpA_pick {K : PySem.W.Frag} {F : Hp} {vs : List V} {ds : List DD} (r : RpA K F vs ds) : ∀ is : List Nat, RpA K F (is.filterMap (vs[·]?)) (is.filterMap (ds[·]?))
  | [] => .nil
  | i :: is => by
    have ih := rpA_pick r is
    have hl := r.length
    by_cases h : i < ds.length
    · have h2 : i < vs.length := by rw [hl]; exact h
      obtain ⟨v, e, rv⟩ := r.get (List.getElem?_eq_getElem h)
      rw [List.filterMap_cons_some e, List.filterMap_cons_some (List.getElem?_eq_getElem h)]
      exact .cons rv ih
    · rw [List.filterMap_cons_none (List.getElem?_eq_none (by omega)), List.filterMap_cons_none (List.getElem?_eq_none (by omega))]
      exact ih
section
variable {prog : Program} {w : World} {A : Around} {E : Value → Shared → Prop} {s : Shared}
theorem applied2 {sl : Addr} {c n : Nat} {t t' : Tok} {Q : Int × Int × Nat → Shared → Prop} (hs : s.heap.IsSliceOf sl (.int (c : Nat) t) .none (.int 2 t'))
    (h : Q (((min c n : Nat) : Int), 2, Builtin.Slice.slicePlaces ((min c n : Nat) : Int) (n : Int) 2) s) : wpAny (model prog w) A (Builtin.Slice.sliceApplied (.ref sl) (pure (n : Int))) Q E s := by
  obtain ⟨os, hos, hcs, hds⟩ := id hs
  unfold Builtin.Slice.sliceApplied Builtin.Slice.sliceFields
  refine wpAny_bind (wpAny_bind (wpAny_field hos hds (x := .int (c : Nat) t) rfl (wpAny_bind (wpAny_field hos hds (x := .none) rfl (wpAny_bind (wpAny_field hos hds (x := .int 2 t') rfl (wpAny_pure ?_)))))))
  refine wpAny_bind (HT.slicePart_ (.int 2 t') ?_)
  show wpAny _ _ (if ((2 : Int) == 0) = true then _ else _) _ _ s
  rw [if_neg (by decide)]
  refine wpAny_bind (HT.slicePart_ (.int (c : Nat) t) (wpAny_bind (HT.slicePart_ .none (wpAny_bind (wpAny_pure ?_)))))
  have e : Builtin.Slice.sliceAdjust (some ((c : Nat) : Int)) none 2 (n : Int) = (((min c n : Nat) : Int), (n : Int)) := by
    unfold Builtin.Slice.sliceAdjust
    have h1 : ¬ ((2 : Int) < 0) := by decide
    have h2 : ¬ (((c : Nat) : Int) < 0) := by omega
    simp only [h1, h2, if_false]
    refine Prod.ext ?_ rfl
    show min (c : Int) (n : Int) = ((min c n : Nat) : Int)
    omega
  show wpAny _ _ (match Builtin.Slice.sliceAdjust (some ((c : Nat) : Int)) none 2 (n : Int) with | (lo, hi) => pure (lo, (2 : Int), Builtin.Slice.slicePlaces lo hi 2)) _ _ s
  rw [e]
  exact wpAny_pure h
theorem tup_cut2 {t sl : Addr} {items : Array Value} {c : Nat} {tk tk' : Tok} {Q : Value → Shared → Prop} (ht : IsTup s.heap t items) (hs : s.heap.IsSliceOf sl (.int (c : Nat) tk) .none (.int 2 tk'))
    (h : Q (.ref s.heap.objs.size) { s with heap := s.heap.push { cls := .type "tuple", data := .seq (cut2 items.toList c).toArray } }) (hsz : items.size ≤ sizeLine) : wpAny (model prog w) A (getItem (.ref t) (.ref sl)) Q E s := by
  have htake : sizeOk (.seq (cut2 items.toList c).toArray) := by
    show (cut2 items.toList c).toArray.size ≤ sizeLine
    rw [List.size_toArray]
    have := cut2_len items.toList c
    rw [Array.length_toList] at this
    exact Nat.le_trans this hsz
  obtain ⟨os, hos, hcs, hds⟩ := id hs
  have hTs : s.TypeIs (.ref sl) "slice" := ⟨os, hos, hcs⟩
  unfold getItem
  try with_reducible refine wpAny_holding ?_
  first | refine wpAny_bind (wpAny_pure ?_) | skip
  refine wpAny_bind (wpAny_sequenceKey ht.typeIs (by decide) ?_)
  refine wpAny_bind (wpAny_callSpecial?_slot (name := Str.ofString "__getitem__") ht.typeIs PyProof.Rows.slot_tuple_getitem (wpAny_call_entry PyProof.Rows.slot_tuple_getitem ht.typeIs entry_tuple_getitem ?_ (args_tuple_getitem _ _)))
  show wpAny _ _ (Builtin.Tuple.tupleItemsOf (.ref t) >>= _) _ _ s
  refine wpAny_bind (tupleItemsOf_ ht ?_)
  refine wpAny_bind (wpAny_typeOf hTs ?_)
  rw [if_pos (by decide)]
  refine wpAny_bind (applied2 hs ?_)
  have hno : ¬ ((((min c items.size : Nat) : Int) == 0 && (2 : Int) == 1 && Builtin.Slice.slicePlaces ((min c items.size : Nat) : Int) (items.size : Int) 2 == items.size) = true) := by
    intro q
    rw [Bool.and_eq_true, Bool.and_eq_true] at q
    exact absurd q.1.2 (by decide)
  show wpAny _ _ (if (((min c items.size : Nat) : Int) == 0 && (2 : Int) == 1 && Builtin.Slice.slicePlaces ((min c items.size : Nat) : Int) (items.size : Int) 2 == items.size) = true then _ else _) _ _ s
  have epick : ((List.range (Builtin.Slice.slicePlaces ((min c items.size : Nat) : Int) (items.size : Int) 2)).filterMap fun (m : Nat) => items[(((min c items.size : Nat) : Int) + (m : Int) * 2).toNat]?).toArray = (cut2 items.toList c).toArray := by
    unfold cut2 idx2
    rw [List.filterMap_map, Array.length_toList]
    have ef : (fun (m : Nat) => items[(((min c items.size : Nat) : Int) + (m : Int) * 2).toNat]?) = (fun x => items.toList[x]?) ∘ fun (m : Nat) => (((min c items.size : Nat) : Int) + (m : Int) * 2).toNat := by
      funext m
      simp
    rw [ef]
  rw [if_neg hno, epick]
  first
    | exact wpAny_bind (m := Builtin.Tuple.tupleExact _) (wpAny_newObj_type (wpAny_pure ⟨_, rfl, wpAny_pure h⟩) htake)
    | exact wpAny_bind (m := Builtin.Tuple.tupleExact _) (wpAny_newObj_type (wpAny_bind (wpAny_pure (wpAny_pure ⟨_, rfl, wpAny_pure h⟩))) htake)
    | exact wpAny_bind (wpAny_bind (m := Builtin.Tuple.tupleExact _) (wpAny_newObj_type (wpAny_pure (wpAny_pure ⟨_, rfl, wpAny_pure h⟩)) htake))
    | exact wpAny_bind (wpAny_bind (m := Builtin.Tuple.tupleExact _) (wpAny_newObj_type (wpAny_pure ⟨_, rfl, wpAny_pure h⟩) htake))
end
def tSl2 (K : PySem.W.Frag) (c : Nat) (te : TE) : TE := fun σ H Q => te σ H fun x H1 => ∃ a xs, x = .ref a ∧ SqT K H1 a xs ∧ ∀ p, H1 p = none → Q (.ref p) (upd H1 p (.tup (cut2 xs c)))
section
variable {X : Cx} {B : Bs} {W : WX} {e : Expr} {te : TE} {fa : Env → M DD} {p1 p2 p3 pos : Pos} {k1 k2 : Nat}
theorem pe_sl2 {c : Nat} (he : PE X e te) : PE X (.Subscript e (.Slice (some (.Constant (.int (c : Nat)) k1 p1)) none (some (.Constant (.int 2) k2 p2)) p3) pos) (tSl2 X.K c te) := by
  refine ⟨fun pins s σ H Q I h => ?_⟩
  refine Subscript_ (thn (he.run pins s σ H _ I h) fun v s1 ⟨x, H1, I1, r1, a, xs, ex, hx, q1⟩ => ?_)
  subst ex
  cases r1
  refine wpAny_Slice ?_
  refine thn (((po_some (pe_int (i := (c : Nat)) (j := k1) (pos := p1))).run pins s1 σ H1 (fun o H' => o = some ((c : Nat) : Int) ∧ H' = H1) I1 ⟨_, rfl, rfl, rfl⟩)) fun vl s2 ⟨l, H2, I2, pl, el, eH⟩ => ?_
  subst el eH
  rw [evalPart_none]
  refine wpAny_pure ?_
  refine thn (((po_some (pe_int (i := 2) (j := k2) (pos := p2))).run pins s2 σ H2 (fun o H' => o = some 2 ∧ H' = H2) I2 ⟨_, rfl, rfl, rfl⟩)) fun vk s3 ⟨l3, H3, I3, pk, el, eH⟩ => ?_
  subst el eH
  cases pl with
  | int _ t =>
    cases pk with
    | int _ t' =>
      have I4 : Inv X pins σ H3 { s3 with heap := s3.heap.push { cls := .type "slice", data := .fields #[.int (c : Nat) t, .none, .int 2 t'] } } := I3.kept (t' := s3.toks) fun b ob q => Heap.get?_push_of_some _ q
      obtain ⟨its, r, ht, hz⟩ := I4.tuple hx
      have hlen : its.toArray.size = xs.length := by rw [List.size_toArray]; exact r.length.symm
      show wpAny (model X.prog X.w) X.A (subscriptTail e _ (.ref a) (.ref s3.heap.objs.size)) (EP X pins σ Q) X.xe { s3 with heap := s3.heap.push { cls := .type "slice", data := .fields #[.int (c : Nat) t, .none, .int 2 t'] } }
      refine tail_any (ops := [.ref a, .ref s3.heap.objs.size]) ht.typeIs PyProof.Rows.slot_tuple_getitem.lookup (tup_cut2 ht (Heap.IsSliceOf.new ..) ?_ (by rw [hlen]; exact hz)) (by with_unfolding_all rfl)
      refine ⟨.ref _, _, I4.laid (t' := s3.toks) (o := .tup (cut2 xs c)) (fun b ob q => Heap.get?_push_of_some _ q) (Nat.le_refl _) ?_, rfl, q1 _ (I4.hok.fresh (Nat.le_refl _))⟩
      refine ⟨Nat.le_trans (cut2_len xs c) hz, _, ?_, IsTup.new _ _⟩
      have hl : xs.length = its.length := r.length
      have := vals_pick r (idx2 its.length c)
      unfold cut2
      rw [hl]
      simpa using this
def eSl2 (c : Nat) (f : Env → M DD) : Env → M DD := fun env => bnd (f env) fun d => match d with
  | .tup xs => ret (.tup (cut2 xs c))
  | _ => stk
theorem de_sl2 {c : Nat} {ci : Int} (hc : ci = (c : Nat)) (hK : B.K = X.K) (he : DE X B W e fa) : DE X B W (.Subscript e (.Slice (some (.Constant (.int ci) k1 p1)) none (some (.Constant (.int 2) k2 p2)) p3) pos) (eSl2 c fa) := by
  subst hc
  obtain ⟨t, p, s⟩ := he.ex
  refine ⟨_, pe_sl2 p, fun env S σ F H sa k Q hq => s env S σ F H sa k _ ((Post.bnd hq).imp fun x S1 h1 v F1 H1 kk e1 r1 => ?_)⟩
  cases x with
  | tup ds =>
    obtain ⟨a, xs, rfl, h2, h3⟩ := r1.tup_inv
    refine ⟨a, xs, rfl, hK ▸ sqT_same kk.fh h2, good_new (o := .tup (cut2 xs c)) kk (fun v F' H' k' g' r' => h1 v F' H' k' (e1.trans g') r') fun q F' sF hq => .tup (.inl (.inl hq)) ?_⟩
    have hl := h3.length
    have z := rpA_pick (RpA.same sF ds h3) (idx2 xs.length c)
    unfold cut2
    rw [← hl]
    exact z
  | _ => exact h1.elim
end
end AU
namespace AU
open PySem PySem.Spec PyProof.Rows L2
theorem dss_stk {X : Cx} {B : Bs} {W : WX} {ss : List Stmt} : DSs X B W ss fun _ _ => none := ⟨fun _ _ _ => False, ⟨fun _ _ _ _ _ _ h => h.elim⟩, fun _ _ _ _ _ _ _ _ h => h.elim⟩
end AU
namespace AU
open PySem PySem.Spec PyProof.Rows L2 SrtO

/-! ### a stable sort -/
section
variable {α β : Type}
def insS (lt : α → α → Bool) (x : α) : List α → List α
  | [] => [x]
  | y :: l => if lt y x = true then y :: insS lt x l else x :: y :: l
def isrt (lt : α → α → Bool) : List α → List α
  | [] => []
  | x :: l => insS lt x (isrt lt l)
theorem insS_perm (lt : α → α → Bool) (x : α) : ∀ l, (insS lt x l).Perm (x :: l)
  | [] => List.Perm.refl _
  | y :: l => by
    unfold insS
    split
    · exact ((insS_perm lt x l).cons y).trans (List.Perm.swap x y l)
    · exact List.Perm.refl _
theorem isrt_perm (lt : α → α → Bool) : ∀ l, (isrt lt l).Perm l
  | [] => List.Perm.refl _
  | x :: l => (insS_perm lt x _).trans ((isrt_perm lt l).cons x)
theorem insS_srtd {lt : α → α → Bool} (O : Swo lt) (x : α) : ∀ l, Srtd lt l → Srtd lt (insS lt x l)
  | [], _ => List.pairwise_singleton _ _
  | y :: l, h => by
    unfold insS
    obtain ⟨h1, h2⟩ := List.pairwise_cons.mp h
    by_cases c : lt y x = true
    · rw [if_pos c]
      refine List.pairwise_cons.mpr ⟨fun z hz => ?_, insS_srtd O x l h2⟩
      rcases List.mem_cons.mp ((insS_perm lt x l).mem_iff.mp hz) with e | e
      · rw [e]; exact O.asym _ _ c
      · exact h1 z e
    · rw [if_neg c]
      have c' : lt y x = false := by simpa using c
      refine List.pairwise_cons.mpr ⟨fun z hz => ?_, h⟩
      rcases List.mem_cons.mp hz with e | e
      · rw [e]; exact c'
      · exact O.tr _ _ _ c' (h1 z e)
theorem isrt_srtd {lt : α → α → Bool} (O : Swo lt) : ∀ l, Srtd lt (isrt lt l)
  | [] => List.Pairwise.nil
  | x :: l => insS_srtd O x _ (isrt_srtd O l)
theorem insS_cls {lt : α → α → Bool} (O : Swo lt) (x z : α) : ∀ l, (insS lt x l).filter (eqv lt z) = (x :: l).filter (eqv lt z)
  | [] => rfl
  | y :: l => by
    unfold insS
    by_cases c : lt y x = true
    · rw [if_pos c, List.filter_cons, insS_cls O x z l, List.filter_cons, List.filter_cons, List.filter_cons]
      by_cases hx : eqv lt z x = true
      · by_cases hy : eqv lt z y = true
        · exfalso
          have e1 := eqv_iff.mp hx
          have e2 := eqv_iff.mp hy
          have h3 := O.tr x z y e1.1 e2.2
          rw [c] at h3
          cases h3
        · simp [hx, hy]
      · simp [hx]
    · rw [if_neg c]
theorem isrt_stb {lt : α → α → Bool} (O : Swo lt) : ∀ l, Stb lt (isrt lt l) l
  | [] => Stb.refl _
  | x :: l => by
    refine ⟨isrt_perm lt (x :: l), fun z => ?_⟩
    show (insS lt x (isrt lt l)).filter _ = _
    rw [insS_cls O x z, List.filter_cons, List.filter_cons, (isrt_stb O l).cls z]
theorem insS_map {lt : α → α → Bool} {lt' : β → β → Bool} (f : α → β) (x : α) : ∀ l, (∀ y ∈ l, lt y x = lt' (f y) (f x)) → (insS lt x l).map f = insS lt' (f x) (l.map f)
  | [], _ => rfl
  | y :: l, h => by
    rw [List.map_cons]
    unfold insS
    rw [h y (by simp)]
    split
    · rw [List.map_cons, insS_map f x l fun z hz => h z (by simp [hz])]
    · rfl
theorem isrt_map {lt : α → α → Bool} {lt' : β → β → Bool} (f : α → β) : ∀ l, (∀ x ∈ l, ∀ y ∈ l, lt x y = lt' (f x) (f y)) → (isrt lt l).map f = isrt lt' (l.map f)
  | [], _ => rfl
  | x :: l, h => by
    show (insS lt x (isrt lt l)).map f = insS lt' (f x) (isrt lt' (l.map f))
    rw [insS_map f x _ fun y hy => h y (by simp [(isrt_perm lt l).mem_iff.mp hy]) x (by simp), isrt_map f l fun a ha b hb => h a (by simp [ha]) b (by simp [hb])]
end

/-! ### flat keys of data -/
def flatAll : List Bool → List DD → Bool
  | [], [] => true
  | false :: sg, .int _ :: ds => flatAll sg ds
  | true :: sg, .bl _ :: ds => flatAll sg ds
  | _, _ => false
def intOf : DD → Int
  | .int i => i
  | .bl b => if b = true then 1 else 0
  | _ => 0
def sgOf1 : DD → Bool
  | .bl _ => true
  | _ => false
def itemsD : DD → List DD
  | .tup ds => ds
  | _ => []
def fkD (d : DD) : List Int := (itemsD d).map intOf
def sgD (d : DD) : List Bool := (itemsD d).map sgOf1
def flatOk (sg : List Bool) : DD → Bool
  | .tup ds => flatAll sg ds
  | _ => false
def sgsD : List DD → List Bool
  | [] => [false]
  | d :: _ => sgD d
def srtOk (xs : List DD) : Bool := (sgsD xs).head? == some false && xs.all (flatOk (sgsD xs))
abbrev ltD (n : Nat) (x y : DD) : Bool := lexL (cutK n (fkD x)) (cutK n (fkD y))
def sortD (xs : List DD) : List DD := isrt (ltD (sgsD xs).length) xs
def bSorted : List DD → M DD
  | [.lst xs] => if srtOk xs = true then ret (.lst (sortD xs)) else stk
  | [.dct xs _] => if srtOk xs = true then ret (.lst (sortD xs)) else stk
  | _ => stk
theorem flatV_of {K : PySem.W.Frag} {F : Hp} : ∀ {sg : List Bool} {ds : List DD} {ws : List V}, flatAll sg ds = true → RpA K F ws ds → FlatV sg (ds.map intOf) ws
  | [], [], _, _, r => by cases r; exact .nil
  | [], _ :: _, _, h, _ => by simp [flatAll] at h
  | sg, [], _, h, r => by
    cases sg with
    | nil => cases r; exact .nil
    | cons b sg => cases b <;> simp [flatAll] at h
  | b :: sg, d :: ds, _, h, r => by
    cases r with
    | cons r1 r2 =>
      cases b with
      | false =>
        cases d <;> simp [flatAll] at h
        rename_i i
        cases r1.int_inv
        exact .int i (flatV_of h r2)
      | true =>
        cases d <;> simp [flatAll] at h
        rename_i i
        cases r1.bl_inv
        exact .bool i (flatV_of h r2)
theorem flatV_fn : ∀ {sg : List Bool} {ns ms : List Int} {ws : List V}, FlatV sg ns ws → FlatV sg ms ws → ns = ms
  | _, _, _, _, .nil, h => by cases h; rfl
  | _, _, _, _, .int i a, h => by
    cases h with
    | int j b => rw [flatV_fn a b]
  | _, _, _, _, .bool i a, h => by
    cases h with
    | bool j b => rw [flatV_fn a b]
theorem zip_fst {α β : Type} : ∀ {xs : List α} {ys : List β}, xs.length = ys.length → (xs.zip ys).map (·.1) = xs
  | [], [], _ => rfl
  | x :: xs, y :: ys, h => by simp [zip_fst (xs := xs) (ys := ys) (by simpa using h)]
  | [], _ :: _, h => by simp at h
  | _ :: _, [], h => by simp at h
theorem zip_snd {α β : Type} : ∀ {xs : List α} {ys : List β}, xs.length = ys.length → (xs.zip ys).map (·.2) = ys
  | [], [], _ => rfl
  | x :: xs, y :: ys, h => by simp [zip_snd (xs := xs) (ys := ys) (by simpa using h)]
  | [], _ :: _, h => by simp at h
  | _ :: _, [], h => by simp at h
theorem RpA.of_zip {K : PySem.W.Frag} {F : Hp} {l : List (V × DD)} (h : ∀ p ∈ l, Rp K F p.1 p.2) : RpA K F (l.map (·.1)) (l.map (·.2)) := by
  induction l with
  | nil => exact .nil
  | cons p l ih => exact .cons (h p (by simp)) (ih fun q hq => h q (by simp [hq]))
theorem RpA.zip {K : PySem.W.Frag} {F : Hp} : ∀ {ws : List V} {ds : List DD}, RpA K F ws ds → ∀ p ∈ ws.zip ds, Rp K F p.1 p.2
  | _, _, .nil => fun p hp => by simp at hp
  | _, _, .cons r1 r2 => fun p hp => by
    rw [List.zip_cons_cons] at hp
    rcases List.mem_cons.mp hp with e | e
    · rw [e]; exact r1
    · exact RpA.zip r2 p e
/-- the key of a value among values and their data -/
noncomputable def keyV (l : List (V × DD)) (v : V) : List Int := match l.find? (fun p => decide (p.1 = v)) with
  | some p => fkD p.2
  | none => []
section
variable {B : Bs} {W : WX} {X : Cx} {e : Expr} {fr : Env → M (List DD)} {pos : Pos}
theorem srt_core {K : PySem.W.Frag} {F H : Hp} (eF : Same F H) {ws : List V} {ds : List DD} (r : RpA K F ws ds) (ok : srtOk ds = true) :
    ∃ k, (∀ x ∈ ws, ∃ t ys, x = V.ref t ∧ SqT K H t ys ∧ FlatV (sgsD ds) (k x) ys) ∧ (TupFn K H → ∀ ys, Srtd (ltF (sgsD ds).length k) ys → Stb (ltF (sgsD ds).length k) ys ws → RpA K F ys (sortD ds)) := by
  obtain ⟨_, hall⟩ := Bool.and_eq_true_iff.mp (show ((sgsD ds).head? == some false && ds.all (flatOk (sgsD ds))) = true from ok)
  have hall := List.all_eq_true.mp hall
  have hl := r.length
  have hz := r.zip
  have one : ∀ p ∈ ws.zip ds, ∃ t ys, p.1 = V.ref t ∧ SqT K H t ys ∧ FlatV (sgsD ds) (fkD p.2) ys := fun p hp => by
    have rp := hz p hp
    have hd : p.2 ∈ ds := (List.of_mem_zip hp).2
    have f := hall _ hd
    obtain ⟨v, d⟩ := p
    cases d with
    | tup es =>
      obtain ⟨t, ys, e1, h1, h2⟩ := rp.tup_inv
      exact ⟨t, ys, e1, sqT_same eF h1, flatV_of f h2⟩
    | _ => cases f
  refine ⟨keyV (ws.zip ds), fun x hx => ?_, fun tf ys h1 h2 => ?_⟩
  · have hx' : x ∈ (ws.zip ds).map (·.1) := by rw [zip_fst hl]; exact hx
    obtain ⟨q, hq, eq⟩ := List.mem_map.mp hx'
    cases hf : (ws.zip ds).find? (fun p => decide (p.1 = x)) with
    | none =>
      have := List.find?_eq_none.mp hf q hq
      simp [eq] at this
    | some p =>
      have hm := List.mem_of_find?_eq_some hf
      have he := List.find?_some hf
      simp only [decide_eq_true_eq] at he
      obtain ⟨t, ys, e1, a, b⟩ := one p hm
      refine ⟨t, ys, he ▸ e1, a, ?_⟩
      unfold keyV
      rw [hf]
      exact b
  · have kk : ∀ p ∈ ws.zip ds, keyV (ws.zip ds) p.1 = fkD p.2 := fun p hp => by
      unfold keyV
      cases hf : (ws.zip ds).find? (fun q => decide (q.1 = p.1)) with
      | none =>
        have := List.find?_eq_none.mp hf p hp
        simp at this
      | some q =>
        have hm := List.mem_of_find?_eq_some hf
        have he := List.find?_some hf
        simp only [decide_eq_true_eq] at he
        obtain ⟨t, ys, e1, a, b⟩ := one p hp
        obtain ⟨t', ys', e1', a', b'⟩ := one q hm
        rw [he, e1] at e1'
        cases e1'
        cases tf t ys ys' a a'
        exact (flatV_fn b' b)
    let lt2 : V × DD → V × DD → Bool := fun p q => ltF (sgsD ds).length (keyV (ws.zip ds)) p.1 q.1
    have O : Swo (ltF (sgsD ds).length (keyV (ws.zip ds))) := ltF_swo _ _
    have O2 : Swo lt2 := ⟨fun x y h => O.asym _ _ h, fun x y z h1 h2 => O.tr _ _ _ h1 h2⟩
    have s1 : Srtd (ltF (sgsD ds).length (keyV (ws.zip ds))) ((isrt lt2 (ws.zip ds)).map (·.1)) := srtd_map (f := fun p : V × DD => p.1) (isrt_srtd O2 (ws.zip ds))
    have s2 : Stb (ltF (sgsD ds).length (keyV (ws.zip ds))) ((isrt lt2 (ws.zip ds)).map (·.1)) ws := by
      have := Stb.map O (fun p : V × DD => p.1) (isrt_stb O2 (ws.zip ds))
      rw [zip_fst hl] at this
      exact this
    have u1 : ys = (isrt lt2 (ws.zip ds)).map (·.1) := by
      refine stb_uniq O h1 s1 ⟨h2.perm.trans s2.perm.symm, fun z => (h2.cls z).trans (s2.cls z).symm⟩
    have u2 : sortD ds = (isrt lt2 (ws.zip ds)).map (·.2) := by
      rw [isrt_map (lt := lt2) (lt' := ltD (sgsD ds).length) (fun p : V × DD => p.2) (ws.zip ds) (fun x hx y hy => ?_), zip_snd hl]
      · rfl
      · show lexL (cutK _ (keyV _ x.1)) (cutK _ (keyV _ y.1)) = lexL (cutK _ (fkD x.2)) (cutK _ (fkD y.2))
        rw [kk x hx, kk y hy]
    rw [u1, u2]
    exact RpA.of_zip fun p hp => hz p ((isrt_perm lt2 _).mem_iff.mp hp)
theorem snd_sorted : CSnd B W (rSortedF B.K) bSorted := fun env S σ F H sa vs ds k r Q h => by
  unfold bSorted at h
  split at h
  · rename_i xs
    obtain ⟨ok, h⟩ := post_if h
    obtain ⟨v, rfl, r1⟩ := rpa1 r
    obtain ⟨a, ws, rfl, h1, h2⟩ := r1.lst_inv
    obtain ⟨kf, p1, p2⟩ := srt_core k.fh h2 ok
    have hs : (sgsD xs).head? = some false := by
      have := (Bool.and_eq_true_iff.mp (show ((sgsD xs).head? == some false && xs.all (flatOk (sgsD xs))) = true from ok)).1
      simpa using this
    exact ⟨a, ws, kf, sgsD xs, rfl, .inl (SqL.of (k.fh _ _ h1)), hs, p1, fun tf ys p s1 s2 hp => good_new k h (fun p F' e hq => .lst hq (RpA.same e _ (p2 tf ys s1 s2))) (by intro ps z; cases z) p hp⟩
  · rename_i xs vs'
    obtain ⟨ok, h⟩ := post_if h
    obtain ⟨v, rfl, r1⟩ := rpa1 r
    obtain ⟨a, o, es, rfl, h1, h2, h3, h4⟩ := r1.dct_inv
    obtain ⟨kf, p1, p2⟩ := srt_core k.fh h2 ok
    have hs : (sgsD xs).head? = some false := by
      have := (Bool.and_eq_true_iff.mp (show ((sgsD xs).head? == some false && xs.all (flatOk (sgsD xs))) = true from ok)).1
      simpa using this
    exact ⟨a, _, kf, sgsD xs, rfl, .inr ⟨es, .inr ⟨o, k.fh _ _ h1⟩, rfl⟩, hs, p1, fun tf ys p s1 s2 hp => good_new k h (fun p F' e hq => .lst hq (RpA.same e _ (p2 tf ys s1 s2))) (by intro ps z; cases z) p hp⟩
  · exact h.elim
theorem de_sorted (hK : B.K = X.K) (hc : X.calm = true) {p : Pos} (hm : X.mg "sorted" = none) (ha : DA X B W [e] fr) (hg : Gl X "sorted" := by rfl)
    (he : starEach [e] X.env = (false, eval e X.env) :: starEach [] X.env := by rfl) (hpl : (backTo pos (starEach [] X.env)).any (·.1) = false := by rfl) : DE X B W (.Call (.Name "sorted" p) [e] [] pos) (eB bSorted fr) :=
  de_cb (cr_sortedF hc) (hK ▸ snd_sorted) hm ha hg (by decide +kernel) (by decide) (by decide) he hpl

/-! ### min, max of a list of ints -/
def intsD : List DD → Option (List Int)
  | [] => some []
  | .int i :: ds => (intsD ds).map (i :: ·)
  | _ => none
def mxL : List Int → Int
  | [] => 0
  | x :: xs => xs.foldl max x
def mnL : List Int → Int
  | [] => 0
  | x :: xs => xs.foldl min x
theorem foldl_max : ∀ (xs : List Int) (x : Int), (xs.foldl max x ∈ x :: xs) ∧ ∀ y ∈ x :: xs, y ≤ xs.foldl max x
  | [], x => ⟨by simp, fun y hy => by simp at hy; simp [hy]⟩
  | z :: xs, x => by
    obtain ⟨h1, h2⟩ := foldl_max xs (max x z)
    refine ⟨?_, fun y hy => ?_⟩
    · show xs.foldl max (max x z) ∈ _
      rcases List.mem_cons.mp h1 with e | e
      · rw [e]
        rcases Int.le_total x z with q | q
        · rw [Int.max_eq_right q]; simp
        · rw [Int.max_eq_left q]; simp
      · simp [e]
    · show y ≤ xs.foldl max (max x z)
      have h3 := h2 (max x z) (by simp)
      rcases List.mem_cons.mp hy with e | e
      · rw [e]; exact Int.le_trans (Int.le_max_left x z) h3
      · rcases List.mem_cons.mp e with e | e
        · rw [e]; exact Int.le_trans (Int.le_max_right x z) h3
        · exact h2 y (by simp [e])
theorem foldl_min : ∀ (xs : List Int) (x : Int), (xs.foldl min x ∈ x :: xs) ∧ ∀ y ∈ x :: xs, xs.foldl min x ≤ y
  | [], x => ⟨by simp, fun y hy => by simp at hy; simp [hy]⟩
  | z :: xs, x => by
    obtain ⟨h1, h2⟩ := foldl_min xs (min x z)
    refine ⟨?_, fun y hy => ?_⟩
    · show xs.foldl min (min x z) ∈ _
      rcases List.mem_cons.mp h1 with e | e
      · rw [e]
        rcases Int.le_total x z with q | q
        · rw [Int.min_eq_left q]; simp
        · rw [Int.min_eq_right q]; simp
      · simp [e]
    · show xs.foldl min (min x z) ≤ y
      have h3 := h2 (min x z) (by simp)
      rcases List.mem_cons.mp hy with e | e
      · rw [e]; exact Int.le_trans h3 (Int.min_le_left x z)
      · rcases List.mem_cons.mp e with e | e
        · rw [e]; exact Int.le_trans h3 (Int.min_le_right x z)
        · exact h2 y (by simp [e])
def bML (g : List Int → Int) : List DD → M DD
  | [.lst xs] => match intsD xs with
    | some (n :: ns) => ret (.int (g (n :: ns)))
    | _ => stk
  | _ => stk
theorem intsD_vals {K : PySem.W.Frag} {F : Hp} : ∀ {ds : List DD} {ns : List Int} {ws : List V}, intsD ds = some ns → RpA K F ws ds → ws = ns.map V.int
  | [], _, _, h, r => by
    cases h
    cases r
    rfl
  | d :: ds, _, _, h, r => by
    cases r with
    | cons r1 r2 =>
      cases d <;> simp [intsD] at h
      obtain ⟨ns, h1, rfl⟩ := h
      cases r1.int_inv
      rw [intsD_vals h1 r2]
      rfl
theorem snd_maxL : CSnd B W (rMax B.K) (bML mxL) := fun env S σ F H sa vs ds k r Q h => by
  unfold bML at h
  split at h
  · rename_i xs
    match q : intsD xs, h with
    | none, h => exact h.elim
    | some [], h => exact h.elim
    | some (n :: ns), h =>
      obtain ⟨v, rfl, r1⟩ := rpa1 r
      obtain ⟨a, ws, rfl, h1, h2⟩ := r1.lst_inv
      refine ⟨a, n :: ns, rfl, ?_, by simp, fun m hm hy => ?_⟩
      · rw [← intsD_vals q h2]; exact SqL.of (k.fh _ _ h1)
      · obtain ⟨a1, a2⟩ := foldl_max ns n
        have e : m = mxL (n :: ns) := Int.le_antisymm (a2 m hm) (hy _ a1)
        rw [e]
        exact h _ F H k Gw.refl (.int _)
  · exact h.elim
theorem snd_minL : CSnd B W (rMin B.K) (bML mnL) := fun env S σ F H sa vs ds k r Q h => by
  unfold bML at h
  split at h
  · rename_i xs
    match q : intsD xs, h with
    | none, h => exact h.elim
    | some [], h => exact h.elim
    | some (n :: ns), h =>
      obtain ⟨v, rfl, r1⟩ := rpa1 r
      obtain ⟨a, ws, rfl, h1, h2⟩ := r1.lst_inv
      refine ⟨a, n :: ns, rfl, ?_, by simp, fun m hm hy => ?_⟩
      · rw [← intsD_vals q h2]; exact SqL.of (k.fh _ _ h1)
      · obtain ⟨a1, a2⟩ := foldl_min ns n
        have e : m = mnL (n :: ns) := Int.le_antisymm (hy _ a1) (a2 m hm)
        rw [e]
        exact h _ F H k Gw.refl (.int _)
  · exact h.elim
theorem de_maxL (hK : B.K = X.K) (hc : X.calm = true) {p : Pos} (hm : X.mg "max" = none) (ha : DA X B W [e] fr) (hg : Gl X "max" := by rfl)
    (he : starEach [e] X.env = (false, eval e X.env) :: starEach [] X.env := by rfl) (hpl : (backTo pos (starEach [] X.env)).any (·.1) = false := by rfl) : DE X B W (.Call (.Name "max" p) [e] [] pos) (eB (bML mxL) fr) :=
  de_cb (cr_max hc) (hK ▸ snd_maxL) hm ha hg (by decide +kernel) (by decide) (by decide) he hpl
theorem de_minL (hK : B.K = X.K) (hc : X.calm = true) {p : Pos} (hm : X.mg "min" = none) (ha : DA X B W [e] fr) (hg : Gl X "min" := by rfl)
    (he : starEach [e] X.env = (false, eval e X.env) :: starEach [] X.env := by rfl) (hpl : (backTo pos (starEach [] X.env)).any (·.1) = false := by rfl) : DE X B W (.Call (.Name "min" p) [e] [] pos) (eB (bML mnL) fr) :=
  de_cb (cr_min hc) (hK ▸ snd_minL) hm ha hg (by decide +kernel) (by decide) (by decide) he hpl
end
/-! ### f() -/
section
variable {B : Bs} {W : WX} {X : Cx} {pos : Pos}
def tCall0 (sp : Sp) (E : L2.St → XK) : TE := fun σ H Q => sp ([] ++ []) H Q (E σ)
theorem pe_callS0 {x : Str} {p : Pos} {f : Addr} {fd : FuncData} {ps : List Str} {sp : Sp} {k : Nat} {CX : CXT} {E : L2.St → XK} (F : FnOk X.prog X.w X.K X.mg X.base CX k f fd ps sp) (hr : Room k X.A) (hg : Gl X x) (hm : X.mg x = some (.ref f)) (hk : PySem.W.keepIn X.K (.ref f) = true) (hb : L2.Binds X.K fd ps []) (hx : ∀ σ, PassesAt CX X σ (E σ))
    (hdb : (x == ("__debug__" : Str)) = false := by decide) : PE X (.Call (.Name x p) [] [] pos) (tCall0 sp E) := by
  refine ⟨fun pins s σ H Q I h => ?_⟩
  refine wpAny_Call_Name_kw (ld_glob I hg hm ?_ hdb)
  exact PySem.W.callWith_K0 I.kIn hk (run_fnSD (us := []) (vs := []) F hr hb .nil (hx σ) I .nil h)
def eCall0 (fn : List It → M DD) : Env → M DD := fun _ => callM fn []
theorem de_call0 {x : Str} {p : Pos} {kk m : Nat} {fn : List It → M DD} (Fc : FnC X.prog X.w X.K X.mg X.base B.cls x 0 kk fn) (hr : Room m X.A) (hkm : kk ≤ m) (hK : B.K = X.K) (tk : Takes X W)
    (hg : Gl X x := by rfl) (hdb : (x == ("__debug__" : Str)) = false := by decide) : DE X B W (.Call (.Name x p) [] [] pos) (eCall0 fn) := by
  obtain ⟨f, fd, ps, F, hm, hk, hb⟩ := Fc.ex
  refine ⟨_, pe_callS0 F (hr.mono hkm) hg hm hk hb (fun σ => passAt tk σ) hdb, fun env S σ F H sa' k Q h => ?_⟩
  have z := call_snd (W := W) (n := 0) (vs := []) k .nil rfl h
  rw [hK] at z
  exact z
@[simp] theorem eCall0_app (fn : List It → M DD) (env : Env) : eCall0 fn env = callM fn [] := rfl
end
/-! ### k in d, d of one's own, as a test -/
section
variable {B : Bs} {W : WX} {X : Cx} {e2 : Expr} {fb : Env → M DD} {pos : Pos}
theorem sndT_valB {te : TE} {fa : Env → M DD} (s : SndE B W te fa) : SndT B W (tB te) (tV fa) := fun env S σ F H sa k Q hq => s env S σ F H sa k _ ((Post.bnd hq).imp fun x S1 h1 v F1 H1 k1 e1 r1 => by
  cases x with
  | bl i =>
    cases r1.bl_inv
    exact ⟨i, rfl, h1 F1 H1 k1 e1⟩
  | _ => exact h1.elim)
theorem sndE_inM {i : Nat} {t2 : TE} (hK : B.K = X.K) (s2 : SndE B W t2 fb) : SndE B W (tXIn X.K t2 (tVar i)) (eInM false i fb) := fun env S σ F H sa k Q h => by
  refine s2 env S σ F H sa k _ ((Post.bnd h).imp fun j S1 h1 w F1 H1 k1 g1 r1 => ?_)
  obtain ⟨a, o, e1, g, q⟩ := inM_core k1 r1 (Post.same g1 h1)
  exact ⟨.ref a, e1, a, o, rfl, hK ▸ g, by rw [Bool.false_bne] at q; exact q⟩
theorem sndE_notinM {i : Nat} {t2 : TE} (hK : B.K = X.K) (s2 : SndE B W t2 fb) : SndE B W (tXNotIn X.K t2 (tVar i)) (eInM true i fb) := fun env S σ F H sa k Q h => by
  refine s2 env S σ F H sa k _ ((Post.bnd h).imp fun j S1 h1 w F1 H1 k1 g1 r1 => ?_)
  obtain ⟨a, o, e1, g, q⟩ := inM_core k1 r1 (Post.same g1 h1)
  exact ⟨.ref a, e1, a, o, rfl, hK ▸ g, by rw [Bool.true_bne] at q; exact q⟩
theorem dt_inM {n : Nat} (i : Nat) {x : Str} {px : Pos} (hK : B.K = X.K) (hr : Room n X.A) (hb : DE X B W e2 fb) (hN : X.N[i]? = some x := by rfl) (hv : Vis X.env.scope x := by first | exact Or.inl rfl | exact Or.inr (Or.inl rfl) | exact Or.inr (Or.inr rfl)) (hd : (x == ("__debug__" : Str)) = false := by decide)
    (hcd : (x == ("__classdict__" : Str)) = false := by decide) : DT X B W (.Compare e2 [.In] [.Name x px] pos) (tV (eInM false i fb)) := by
  obtain ⟨t2, p2, s2⟩ := hb.ex
  exact ⟨_, pt_cmp (pc_xin hr.units p2 (pe_var (pos := px) hN hv hd hcd)) rfl, sndT_valB (sndE_inM hK s2)⟩
theorem dt_notinM {n : Nat} (i : Nat) {x : Str} {px : Pos} (hK : B.K = X.K) (hr : Room n X.A) (hb : DE X B W e2 fb) (hN : X.N[i]? = some x := by rfl) (hv : Vis X.env.scope x := by first | exact Or.inl rfl | exact Or.inr (Or.inl rfl) | exact Or.inr (Or.inr rfl)) (hd : (x == ("__debug__" : Str)) = false := by decide)
    (hcd : (x == ("__classdict__" : Str)) = false := by decide) : DT X B W (.Compare e2 [.NotIn] [.Name x px] pos) (tV (eInM true i fb)) := by
  obtain ⟨t2, p2, s2⟩ := hb.ex
  exact ⟨_, pt_cmp (pc_xnotin hr.units p2 (pe_var (pos := px) hN hv hd hcd)) rfl, sndT_valB (sndE_notinM hK s2)⟩
end
end AU
/-! ranges that go down, list(range(..)), a display of a dict that is read at once -/
namespace AU
open PySem PySem.Spec PyProof.Rows L2
section
variable {B : Bs} {W : WX} {X : Cx} {e e2 e3 i tg : Expr} {pos : Pos} {fr : Env → M (List DD)} {fa fi : Env → M DD}
/-! ### range(i, j, -1) -/
def rngM (lo : Int) (n : Nat) : List DD := (List.range n).map fun i => .int (lo + (i : Nat) * (-1))
def jRng3 (f : Env → M (List DD)) : Env → M (List DD) := fun env => bnd (f env) fun ds => match ds with
  | [.int i, .int j, .int c] => if (decide (c = -1) && decide (-1000 ≤ i) && decide (i ≤ 1000) && decide (-1000 ≤ j) && decide (j ≤ 1000)) = true then ret (rngM i (i - j).toNat) else stk
  | _ => stk
theorem itw_rngM {K : PySem.W.Frag} {F : Hp} {lo : Int} {n : Nat} : ItW K (Itc lo (-1) n) (rngM lo n) F := by
  have hl : (rngM lo n).length = n := by simp [rngM]
  refine ⟨fun i H hi e => (by rw [hl] at hi; exact hi), fun H e => (by rw [hl]; exact Nat.le_refl _), fun i H v H' hi e y => .inl ⟨y.1, .int (lo + (i : Nat) * (-1)), ?_, ?_⟩⟩
  · rw [hl] at hi
    simp [rngM, hi]
  · rw [y.2]
    exact .int _
theorem rpa3 {K : PySem.W.Frag} {F : Hp} {vs : List V} {a b c : DD} (r : RpA K F vs [a, b, c]) : ∃ u v w, vs = [u, v, w] ∧ Rp K F u a ∧ Rp K F v b ∧ Rp K F w c := by
  cases r with
  | cons h1 r =>
    obtain ⟨v, w, rfl, h2, h3⟩ := rpa2 r
    exact ⟨_, _, _, rfl, h1, h2, h3⟩
theorem dj_rng3 {p : Pos} (hm : X.mg "range" = none) (ha : DA X B W [e, e2, e3] fr) (hg : Gl X "range" := by rfl) (hs : starEach [e, e2, e3] X.env = (false, eval e X.env) :: starEach [e2, e3] X.env := by rfl) (hpl : (backTo pos (starEach [e2, e3] X.env)).any (·.1) = false := by rfl) :
    DJ X B W tg (.Call (.Name "range" p) [e, e2, e3] [] pos) (jRng3 fr) := by
  obtain ⟨t, pp, s⟩ := ha.ex
  refine ⟨_, pi_range3 hg hm pp hs hpl, fun env S σ F H sa k R hr => s env S σ F H sa k _ ((Post.bnd hr).imp fun ds S1 h1 vs F1 H1 k1 g1 r1 => ?_)⟩
  split at h1
  · obtain ⟨c, h2⟩ := post_if h1
    clear h1
    obtain ⟨u, v, w, rfl, r2, r3, r4⟩ := rpa3 r1
    cases r2.int_inv
    cases r3.int_inv
    cases r4.int_inv
    simp only [Bool.and_eq_true, decide_eq_true_eq] at c
    obtain ⟨⟨⟨⟨rfl, c1⟩, c2⟩, c3⟩, c4⟩ := c
    exact ⟨_, _, _, _, rfl, RgC.neg (by omega) (by omega) (by omega) (by omega), h2 _ F1 H1 k1 g1 itw_rngM⟩
  · exact h1.elim
@[simp] theorem jRng3_app (f : Env → M (List DD)) (env : Env) : jRng3 f env = bnd (f env) fun ds => match ds with
  | [.int i, .int j, .int c] => if (decide (c = -1) && decide (-1000 ≤ i) && decide (i ≤ 1000) && decide (-1000 ≤ j) && decide (j ≤ 1000)) = true then ret (rngM i (i - j).toNat) else stk
  | _ => stk := rfl
/-! ### list(range(n)) -/
def eLRg (f : Env → M DD) : Env → M DD := fun env => bnd (f env) fun d => match d with
  | .int n => if (decide (0 ≤ n) && decide (n ≤ 100000)) = true then ret (.lst (rngD 0 n.toNat)) else stk
  | _ => stk
theorem rpA_rg {K : PySem.W.Frag} {F : Hp} : ∀ (l : List Nat), RpA K F (l.map fun i => V.int (0 + (i : Nat))) (l.map fun i => DD.int (0 + (i : Nat)))
  | [] => .nil
  | x :: l => .cons (.int _) (rpA_rg l)
theorem de_lrg {p p2 pos2 : Pos} (hc : X.calm = true) (hm : X.mg "list" = none) (hm2 : X.mg "range" = none) (ha : DE X B W e fa) (hg : Gl X "list" := by rfl) (hg2 : Gl X "range" := by rfl)
    (na : starEach [e] X.env = (false, eval e X.env) :: starEach [] X.env := by rfl) (nb : starEach [Expr.Call (.Name "range" p2) [e] [] pos2] X.env = (false, eval (Expr.Call (.Name "range" p2) [e] [] pos2) X.env) :: starEach [] X.env := by rfl) :
    DE X B W (.Call (.Name "list" p) [.Call (.Name "range" p2) [e] [] pos2] [] pos) (eLRg fa) := by
  obtain ⟨t, pp, s⟩ := ha.ex
  refine ⟨_, pe_listRg hc hg hm (prg_1 hg2 hm2 pp na) nb, fun env S σ F H sa k Q h => s env S σ F H sa k _ ((Post.bnd h).imp fun d S1 h1 v F1 H1 k1 g1 r1 => ?_)⟩
  split at h1
  · obtain ⟨c, h1⟩ := post_if h1
    cases r1.int_inv
    simp only [Bool.and_eq_true, decide_eq_true_eq] at c
    refine ⟨_, rfl, RgOk.of_le (by omega) (by omega) (by omega) (by omega), good_sameF g1 k1 h1 fun p F' e hp => .lst hp ?_⟩
    unfold rgV rngD
    rw [Int.sub_zero]
    exact rpA_rg _
  · exact h1.elim
@[simp] theorem eLRg_app (f : Env → M DD) (env : Env) : eLRg f env = bnd (f env) fun d => match d with
  | .int n => if (decide (0 ≤ n) && decide (n ≤ 100000)) = true then ret (.lst (rngD 0 n.toNat)) else stk
  | _ => stk := rfl
/-! ### {k: v, ..}[i] -/
theorem Ok.mutN {env : Env} {S : Sr} {σ : L2.St} {F H : Hp} {sa : Option Addr} (k : Ok B env S σ F H sa) {a : Addr} {u w : HO} (ha : H a = some u) (hu1 : ∀ ps, u ≠ .tbl ps) (hu2 : ∀ c x, u ≠ LamX.CodeO c x) (hF : F a = none) (h0 : Fr B B.H0 a) (hs : sa ≠ some a) (hsl : Apart env σ a) :
    Ok B env S σ F (upd H a w) sa := by
  refine ⟨k.ff, fun b u e => ?_, fun b u e h1 h2 => ?_, k.nf, fun p hp => ?_, k.sa0, fun b e => ?_, k.len, fun i it e => ?_, k.dj, k.ft⟩
  · rw [upd_ne (ne_of_none e hF)]
    exact k.fh _ _ e
  · have ne : b ≠ a := fun z => h0 u (z ▸ e) h2
    rw [upd_ne ne]
    exact k.hh b u e h1 h2
  · obtain ⟨ps, e1, e2, e3⟩ := k.tb p hp
    have ne1 : p.1 ≠ a := fun z => by
      rw [z, ha] at e1
      exact hu1 ps (Option.some.inj e1)
    refine ⟨ps, by rw [upd_ne ne1]; exact e1, e2, fun pos cv hc => ?_⟩
    obtain ⟨c, c1, c2⟩ := e3 pos cv hc
    have ne2 : c ≠ a := fun z => by
      rw [z, ha] at c2
      exact hu2 _ _ (Option.some.inj c2)
    exact ⟨c, c1, by rw [upd_ne ne2]; exact c2⟩
  · obtain ⟨h1, h2, h3⟩ := k.so b e
    have ne : b ≠ a := fun z => hs (z ▸ e)
    exact ⟨h1, by rw [upd_ne ne]; exact h2, h3⟩
  · obtain ⟨v, h1, h2⟩ := k.sl i it e
    refine ⟨v, h1, ?_⟩
    cases it with
    | d x => exact h2
    | l xs =>
      obtain ⟨b, us, e1, e2, e3, e4, e5, e6⟩ := h2
      have ne : b ≠ a := fun z => by
        subst e1
        rw [z] at h1
        exact hsl i _ e rfl h1
      exact ⟨b, us, e1, e2, e3, e4, by rw [upd_ne ne]; exact e5, e6⟩
    | m ks ws =>
      obtain ⟨b, us, e1, e2, e3, e4, e5, e6⟩ := h2
      have ne : b ≠ a := fun z => by
        subst e1
        rw [z] at h1
        exact hsl i _ e rfl h1
      exact ⟨b, us, e1, e2, e3, e4, by rw [upd_ne ne]; exact e5, e6⟩
    | s => exact h2
    | sc ns => exact h2
def SndKv (B : Bs) (W : WX) (trs : List (TE × TE)) (ks : List Str) (f : Env → M (List DD)) : Prop := ∀ env S σ F H sa, Ok B env S σ F H sa → ∀ Q : List (V × V) → Hp → Prop,
  Post (GoodL B env σ F H sa fun vs H' => vs.length = ks.length → Q ((ks.map V.str).zip vs) H') (Bad B W env σ F H sa) (f env S) → tPairs trs σ H Q
structure DKv (X : Cx) (B : Bs) (W : WX) (pos : Pos) (keys : List (Option Expr)) (values : List Expr) (ks : List Str) (f : Env → M (List DD)) : Prop where
  ex : ∃ trs, PPs X pos keys values trs ∧ SndKv B W trs ks f
theorem dkv_nil : DKv X B W pos [] [] [] aNil := ⟨[], pps_nil, fun env S σ F H sa k Q h => h [] F H k Gw.refl .nil rfl⟩
theorem dkv_cons {x : Str} {j : Nat} {pk : Pos} {keys : List (Option Expr)} {values : List Expr} {ks : List Str} (ha : DE X B W e fa) (hr : DKv X B W pos keys values ks fr) :
    DKv X B W pos (some (.Constant (.str x) j pk) :: keys) (e :: values) (x :: ks) (aCons fa fr) := by
  obtain ⟨t, pp, s⟩ := ha.ex
  obtain ⟨trs, pr, sr⟩ := hr.ex
  refine ⟨_, pps_cons pe_str pp pr, fun env S σ F H sa k Q h => ?_⟩
  show t σ H fun y H2 => tPairs trs σ H2 fun ps H3 => Q ((V.str x, y) :: ps) H3
  exact s env S σ F H sa k _ ((Post.bnd h).imp fun x S1 h1 v F1 H1 k1 s1 r1 =>
    sr env S1 σ F1 H1 sa k1 _ ((Post.bnd (h1.sameL s1)).imp fun xs S2 h2 vs F2 H2 k2 s2 r2 hl => h2 (v :: vs) F2 H2 k2 s2 (.cons (Rp.same s2.ff x r1) r2) (by simp [hl])))
def pickD (ks : List Str) (vs : List DD) (x : Str) : Option DD := ((ks.zip vs).find? fun p => decide (p.1 = x)).map (·.2)
def ePick (ks : List Str) (fv : Env → M (List DD)) (fi : Env → M DD) : Env → M DD := fun env => bnd (fv env) fun vs => bnd (fi env) fun y => match y with
  | .str x => if decide (vs.length = ks.length) = true then ofO (pickD ks vs x) else stk
  | _ => stk
@[simp] theorem ePick_app (ks : List Str) (fv : Env → M (List DD)) (fi : Env → M DD) (env : Env) : ePick ks fv fi env = bnd (fv env) fun vs => bnd (fi env) fun y => match y with
  | .str x => if decide (vs.length = ks.length) = true then ofO (pickD ks vs x) else stk
  | _ => stk := rfl
theorem putK_snoc {kvs : List (Key × V)} {k : Key} {v : V} (h : k ∉ kvs.map (·.1)) : L2.putK kvs k v = kvs ++ [(k, v)] := by
  refine putK_new v ?_
  unfold valV
  rw [Option.map_eq_none_iff, List.find?_eq_none]
  intro p hp z
  exact h (List.mem_map.mpr ⟨p, hp, of_decide_eq_true z⟩)
theorem mergeK_nodup : ∀ (more kvs : List (Key × V)), ((kvs ++ more).map (·.1)).Nodup → mergeK kvs more = kvs ++ more
  | [], kvs, _ => by simp [mergeK]
  | p :: r, kvs, h => by
    show mergeK (L2.putK kvs p.1 p.2) r = _
    have h' : (((kvs ++ [p]) ++ r).map (·.1)).Nodup := by rw [List.append_assoc]; exact h
    rw [putK_snoc, mergeK_nodup r (kvs ++ [(p.1, p.2)]) h', List.append_assoc]
    · rfl
    · rw [List.map_append, List.nodup_append] at h
      intro hm
      exact h.2.2 _ hm _ (by simp) rfl
def kvOf (ks : List Str) (vs : List V) : List (Key × V) := (ks.zip vs).map fun p => (Sum.inr p.1, p.2)
theorem kvOf_fst : ∀ (ks : List Str) (vs : List V), vs.length = ks.length → (kvOf ks vs).map (·.1) = ks.map Sum.inr
  | [], _, _ => rfl
  | k :: ks, [], h => by simp at h
  | k :: ks, v :: vs, h => by
    have := kvOf_fst ks vs (by simpa using h)
    simpa [kvOf] using this
theorem kvOf_zip : ∀ (ks : List Str) (vs : List V), (ks.map V.str).zip vs = (kvOf ks vs).map fun kv => (kV kv.1, kv.2)
  | [], _ => rfl
  | k :: ks, [] => rfl
  | k :: ks, v :: vs => by
    have := kvOf_zip ks vs
    simp only [kvOf, List.map_cons, List.zip_cons_cons] at this ⊢
    rw [this]
    rfl
theorem pick_of {K : PySem.W.Frag} {F : Hp} {x : Str} {d : DD} : ∀ {ks : List Str} {vs : List V} {ds : List DD}, RpA K F vs ds → pickD ks ds x = some d → ∃ v, valV (kvOf ks vs) (Sum.inr x : Key) = some v ∧ Rp K F v d
  | [], _, _, _, h => by simp [pickD] at h
  | k :: ks, _, _, .nil, h => by simp [pickD] at h
  | k :: ks, _, _, .cons (v := v) (vs := vs) (d := e) (ds := ds) r1 r2, h => by
    by_cases c : k = x
    · subst c
      simp [pickD] at h
      subst h
      exact ⟨v, by simp [valV, kvOf], r1⟩
    · have h' : pickD ks ds x = some d := by
        simpa [pickD, c] using h
      obtain ⟨w, e1, e2⟩ := pick_of r2 h'
      refine ⟨w, ?_, e2⟩
      have cc : ¬ ((Sum.inr k : Key) = Sum.inr x) := fun z => c (Sum.inr.inj z)
      rw [← e1]
      unfold valV kvOf
      rw [List.zip_cons_cons, List.map_cons, List.find?_cons_of_neg (by simpa using cc)]
theorem de_pick {n : Nat} {p2 : Pos} {keys : List (Option Expr)} {values : List Expr} {ks : List Str} (hr : Room n X.A) (hv : DKv X B W p2 keys values ks fr) (hi : DE X B W i fi) (hn : ks.Nodup := by decide)
    (hall : keys.all (·.isSome) = true := by rfl) (hl : keys.length = values.length := by rfl) (h0 : keys ≠ [] := by simp) (h15 : keys.length ≤ 15 := by decide) (hk : keys.length = ks.length := by rfl) (hs : NoSl i := by exact fun _ _ => rfl) :
    DE X B W (.Subscript (.Dict keys values p2) i pos) (ePick ks fr fi) := by
  obtain ⟨trs, pp, sp⟩ := hv.ex
  obtain ⟨t, pi, s⟩ := hi.ex
  refine ⟨_, pe_dget (by have := hr.units; omega) (pe_disp pp hall hl h0 h15) pi hs, fun env S σ F H sa k Q h => ?_⟩
  intro p hp
  obtain ⟨k0, g0, fp, f0, hsa⟩ := k.newH hp (.dK [])
  have kd : ∀ {o : HO}, (∃ kvs, o = .dK kvs) → Kp B o := fun ⟨kvs, z⟩ => .inr fun ps w => by rw [z] at w; cases w
  refine sp env S σ F _ sa k0 _ ((Post.bnd h).mono (fun ds S1 h1 us F1 H1 k1 g1 r1 hl1 => ?_) fun ex S1 z => Bad.of g0 z)
  have e1 : H1 p = some (.dK []) := g1.kp p _ upd_same hsa (kd ⟨_, rfl⟩)
  have fp1 : F1 p = none := g1.nf p _ upd_same (kd ⟨_, rfl⟩) fp
  refine ⟨e1, kvOf ks us, kvOf_zip ks us, ?_, ?_⟩
  · have := kvOf_fst ks us hl1
    have := congrArg List.length this
    simp only [List.length_map] at this
    omega
  have hme : mergeK [] (kvOf ks us) = kvOf ks us := by
    rw [mergeK_nodup _ _ (by
      rw [List.nil_append, kvOf_fst ks us hl1]
      exact hn.map _ (fun a b ne z => ne (Sum.inr.inj z)))]
    rfl
  rw [hme]
  have ap : Apart env σ p := k.apart (Fr.of hp)
  have k2 : Ok B env S1 σ F1 (upd H1 p (.dK (kvOf ks us))) sa := k1.mutN e1 (fun ps z => by cases z) (fun c x z => by unfold LamX.CodeO at z; cases z) fp1 f0 hsa ap
  have g01 := g0.trans g1
  have g2 : Gw B sa F H F1 (upd H1 p (.dK (kvOf ks us))) := by
    refine ⟨g01.ff, fun b u q h1 h2 => ?_, g01.nf, fun b u q h1 => ?_⟩
    · rw [upd_ne (ne_of_none q hp)]
      exact g01.kp b u q h1 h2
    · rw [upd_ne (ne_of_none q hp)]
      exact g01.hh b u q h1
  refine s env S1 σ F1 _ sa k2 _ ((Post.bnd (Post.same g2 h1)).imp fun y S2 h2 v F2 H2 k3 g3 r3 => ?_)
  split at h2
  · rename_i x
    obtain ⟨c, h3⟩ := post_if h2
    cases r3.str_inv
    obtain ⟨d, hd, h4⟩ := post_ofO h3
    obtain ⟨v', e4, r4⟩ := pick_of r1 hd
    have e5 : H2 p = some (.dK (kvOf ks us)) := g3.kp p _ upd_same hsa (kd ⟨_, rfl⟩)
    have dg := DGet.k (k := (Sum.inr x : L2.Key)) e5
    rw [e4] at dg
    exact ⟨p, v', rfl, dg, h4 v' F2 H2 k3 g3 (Rp.same g3.ff d r4)⟩
  · exact h2.elim
end
end AU
/-! ranges of any size -/
namespace AU
open PySem PySem.Spec PyProof.Rows L2
theorem turn_rangeL {P : Program} {w : World} {K : PySem.W.Frag} {tg : Expr} (it : Addr) (lo : Int) (n : Nat) : Turn P w K tg (Itr lo n) [it] it (fun i h => IsLongIter h it (lo + (i : Nat) * 1) ((n : Int) - (i : Nat)) 1) where
  mem := by simp
  obj := fun i h st b hb => by
    have e : b = it := by simpa using hb
    subst e
    exact ⟨_, st, fun v z => by
      have z' : Data.fields _ = Data.cell v := z
      cases z'⟩
  keep := fun i h h' st k => k it (by simp) _ st
  item := by
    intro X hP hw hK hc i pins s σ H E I hf st hg
    subst hP hw hK
    obtain ⟨f0, f1, f2, f3, f4, f5⟩ := hf it (by simp)
    have W := Walks.longrange (prog := X.prog) (w := X.w) (I.ok.hd hc) it lo 1 n
    refine W.item i s _ _ hg st fun v h' tk hv st' kk => ?_
    obtain ⟨t, rfl⟩ := hv
    have I1 : Inv X pins σ H { s with heap := h', toks := tk } := I.turned (fun b o hb e => kk b o (by simpa using hb) e) f0 f1 f3 f4 f5
    refine ⟨_, rfl, go_of (s := { s with heap := h', toks := tk }) (n := "longrange_iterator") st' rfl rfl (by decide) ⟨.int (lo + i), H, I1, ⟨t, ?_⟩, ⟨rfl, rfl⟩, st', fun b hb => (hf b hb).1⟩⟩
    rw [Int.mul_one]
  done := by
    intro X hP hw hK hc i pins s σ H E I hf st hg
    subst hP hw hK
    obtain ⟨f0, f1, f2, f3, f4, f5⟩ := hf it (by simp)
    exact wpAny_pyNext_long_end (I.ok.hd hc) st (by have : n ≤ i := hg; omega) fun h' eb => ⟨rfl, I.turned (t' := s.toks) (fun b o hb e => eb b o hb e) f0 f1 f3 f4 f5⟩
  self := fun _ _ _ _ _ st h => wpAny_pyIter_longiter st h
section
variable {X : Cx} {tg : Expr}
theorem range_itL {pins : List (Addr × Obj)} {σ : L2.St} {H : Hp} {s : Shared} {R : L2.It → Hp → Prop} {E : Value → Shared → Prop} {lo hi : Int} {t u v : Tok} {tk : Nat} (I : Inv X pins σ H s)
    (q : R (Itr lo (hi - lo).toNat) H) : wpAny (model X.prog X.w) X.A (pyIter (.ref s.heap.objs.size)) (PIE X pins σ tg R) E { s with heap := s.heap.push { cls := .type "range", data := .fields #[.int lo t, .int hi u, .int 1 v] }, toks := tk } := by
  have I1 : Inv X pins σ H { s with heap := s.heap.push { cls := .type "range", data := .fields #[.int lo t, .int hi u, .int 1 v] }, toks := tk } := I.kept fun b o e => Heap.get?_push_of_some _ e
  have e1 : lo + ((0 : Nat) : Int) * 1 = lo := by simp
  have e2 : (((hi - lo).toNat : Nat) : Int) - ((0 : Nat) : Int) = Builtin.Range.rangeSize lo hi 1 := by rw [rangeSize_one]; split <;> omega
  cases hs : Builtin.Range.small lo hi 1 with
  | true =>
    refine wpAny_pyIter_range (IsRange.new ..) hs ?_
    refine ⟨(s.heap.push { cls := .type "range", data := .fields #[.int lo t, .int hi u, .int 1 v] }).objs.size, [(s.heap.push { cls := .type "range", data := .fields #[.int lo t, .int hi u, .int 1 v] }).objs.size], _, _, H, rfl,
      I1.kept (t' := tk) fun b o e => Heap.get?_push_of_some _ e, turn_range _ lo (hi - lo).toNat, ?_, fun b hb => ?_, q⟩
    · show IsRangeIter _ _ (lo + ((0 : Nat) : Int) * 1) ((((hi - lo).toNat : Nat) : Int) - ((0 : Nat) : Int)) 1
      rw [e1, e2]
      exact Heap.get?_push_size _ rfl
    · have e : b = (s.heap.push { cls := .type "range", data := .fields #[.int lo t, .int hi u, .int 1 v] }).objs.size := by simpa using hb
      subst e
      exact I1.fpOk (Nat.le_refl _) (I1.hok.fresh (Nat.le_refl _))
  | false =>
    refine wpAny_pyIter_longrange (IsRange.new ..) hs ?_
    refine ⟨(s.heap.push { cls := .type "range", data := .fields #[.int lo t, .int hi u, .int 1 v] }).objs.size, [(s.heap.push { cls := .type "range", data := .fields #[.int lo t, .int hi u, .int 1 v] }).objs.size], _, _, H, rfl,
      I1.kept (t' := tk) fun b o e => Heap.get?_push_of_some _ e, turn_rangeL _ lo (hi - lo).toNat, ?_, fun b hb => ?_, q⟩
    · show IsLongIter _ _ (lo + ((0 : Nat) : Int) * 1) ((((hi - lo).toNat : Nat) : Int) - ((0 : Nat) : Int)) 1
      rw [e1, e2]
      exact Heap.get?_push_size _ rfl
    · have e : b = (s.heap.push { cls := .type "range", data := .fields #[.int lo t, .int hi u, .int 1 v] }).objs.size := by simpa using hb
      subst e
      exact I1.fpOk (Nat.le_refl _) (I1.hok.fresh (Nat.le_refl _))
def iRng2L (ta : TA) : TI := fun σ H R => ta σ H fun vs H1 => ∃ i j : Int, vs = [.int i, .int j] ∧ R (Itr i (j - i).toNat) H1
theorem pi_range2L {a b : Expr} {ta : TA} {p pos : Pos} (hg : Gl X "range") (hm : X.mg "range" = none) (ha : PA X [a, b] ta) (hs : starEach [a, b] X.env = [(false, eval a X.env), (false, eval b X.env)] := by rfl) (hs2 : starEach [b] X.env = [(false, eval b X.env)] := by rfl) :
    PI X tg (.Call (.Name "range" p) [a, b] [] pos) (iRng2L ta) := by
  refine ⟨fun pins s σ H R I h => ?_⟩
  refine Call_ (ld_blt I hg hm boot_range (PyProof.Rows.callWith_type1 (thn (ha.run pos pins s σ H _ I h) fun us s1 ⟨vs, H1, I1, r1, q1⟩ => ?_) (by rw [hs, hs2]) (by rw [hs2]; rfl)))
  obtain ⟨i, j, e, q⟩ := q1
  subst e
  cases r1 with
  | cons r rr =>
    cases rr with
    | cons r' rr =>
      cases rr
      obtain ⟨t, rfl⟩ := r
      obtain ⟨t', rfl⟩ := r'
      exact call_range_2 (range_itL I1 q)
def iRng1L (ta : TA) : TI := fun σ H R => ta σ H fun vs H1 => ∃ j : Int, vs = [.int j] ∧ R (Itr 0 (j - 0).toNat) H1
end
/-! ### list(range(i, j)) -/
section
variable {prog : Program} {w : World} {A : Around} {E : Value → Shared → Prop} {s : Shared} {r : Addr} {a b c : Int} {t u v : Tok} {n : Nat}
theorem ext_rangeL {R : Result → Shared → Prop} (hh : A.handled = none) (hr : IsRange s.heap r a b c t u v) (hbig : Builtin.Range.small a b c = false) (hn : Builtin.Range.rangeSize a b c = n) (hlen : n ≤ 2 ^ 24) (S : Addr) (res : Value) (c₀ : Nat) (hS : s.heap.get? S = some { cls := .type "list", data := .seq #[] c₀ })
    (hR : ∀ h' tk acc' c', (∀ b o, b ≠ S → s.heap.get? b = some o → h'.get? b = some o) → h'.get? S = some { cls := .type "list", dict := none, data := .seq acc' c', slots := #[] } → ItemsOf (fun i x => ∃ t, x = .int (a + i * c) t) acc' n → R (.ok (.ret res)) { s with heap := h', toks := tk }) :
    wpAny (model prog w) A.in1 (Builtin.List.listExtendWith (.ref S) (.ref r) res)
      (fun fin s' => match fin with | .done f => R (.ok f) s' | .again c' => c'.quiet = true ∧ codeAny (model prog w) A c' R s') (fun e s' => R (.error e) s') s := by
  have hSr : S ≠ r := fun e => by rw [e, hr] at hS; simp at hS
  have hSI : S ≠ s.heap.objs.size := Nat.ne_of_lt (Heap.lt_size hS)
  have hSf : S ∉ [s.heap.objs.size] := fun hm => hSI (List.mem_singleton.mp hm)
  have Wk := (Walks.longrange (prog := prog) (w := w) (A := A.in1) hh s.heap.objs.size a c n).toS
  have key : ∀ (h : Heap) (c₁ tk : Nat), IsLongIter h s.heap.objs.size (a + ((0 : Nat) : Int) * c) ((n : Int) - ((0 : Nat) : Int)) c → (∀ b o, b ≠ S → s.heap.get? b = some o → h.get? b = some o) →
      h.get? S = some { cls := .type "list", data := .seq #[] c₁ } → codeAny (model prog w) A (.builtin "list.extend.loop" ⟨[.ref S, .ref s.heap.objs.size, res], []⟩) R { s with heap := h, toks := tk } := by
    intro h c₁ tk hit hk hS₁
    refine codeAny_extend_loopS Wk (by rw [sizeLine_eq]; omega) S hSf res n 0 _ #[] c₁ rfl (Nat.zero_le _) hit hS₁ (ItemsOf.nil _) fun s' acc' c' hm hS' hacc => ?_
    rw [Moved.eq_with hm]
    refine hR s'.heap s'.toks acc' c' (fun b o hb e => hm.heap b o (fun hmem => ?_) (hk b o hb e)) hS' hacc
    rcases List.mem_cons.mp hmem with e' | hmem
    · exact hb e'
    · exact absurd (Heap.lt_size e) (by rw [List.mem_singleton.mp hmem]; exact Nat.lt_irrefl _)
  unfold Builtin.List.listExtendWith
  refine wpAny_bind (wpAny_typeOf (T := "range") ⟨_, hr, rfl⟩ ?_)
  have h1 : Builtin.List.listSameRef (.ref S) (.ref r) = false := by simp [Builtin.List.listSameRef, hSr]
  have h2 : (Value.type "range" == Value.type "list") = false := by decide
  have h3 : (Value.type "range" == Value.type "tuple") = false := by decide
  simp only [h1, h2, h3, Bool.or_false, Bool.false_eq_true, if_false]
  refine wpAny_bind (wpAny_pyIter_longrange hr hbig ?_)
  refine wpAny_bind (wpAny_holding (wpAny_hint_range (n := n) (Heap.get?_push_of_some _ hr) hn hlen ?_))
  have hit₁ : IsLongIter (s.heap.push { cls := .type "longrange_iterator", data := .fields #[rawInt a, rawInt (Builtin.Range.rangeSize a b c), rawInt c] }) s.heap.objs.size (a + ((0 : Nat) : Int) * c) ((n : Int) - ((0 : Nat) : Int)) c := by
    show IsLongIter _ _ _ _ _
    rw [hn]
    simpa using Heap.get?_push_size _ rfl
  have hS₁ := Heap.get?_push_of_some { cls := .type "longrange_iterator", data := .fields #[rawInt a, rawInt (Builtin.Range.rangeSize a b c), rawInt c] } hS
  refine wpAny_ite_split (fun _ => ?_) (fun _ => wpAny_pure ⟨plainId_quiet PySem.F.plain_extend_loop _, key _ c₀ _ hit₁ (fun b o _ e => Heap.get?_push_of_some _ e) hS₁⟩)
  refine wpAny_bind (wpAny_rule ?_)
  refine wpAny_bind ?_
  show wpAny _ _ (updateSeq S (·.push .none) >>= fun _ => updateSeq S (·.pop)) _ _ _
  refine wpAny_bind (wpAny_updateSeq hS₁ rfl ?_)
  have hS₂ := Heap.get?_update_self (Obj.mapSeq (·.push Value.none)) hS₁ rfl
  refine wpAny_updateSeq (hz := by seq_fits) hS₂ rfl ?_
  have hS₃ := Heap.get?_update_self (Obj.mapSeq (·.pop)) hS₂ rfl
  refine wpAny_pure ⟨plainId_quiet PySem.F.plain_extend_loop _, key _ _ _ ?_ (fun b o hb e => ?_) hS₃⟩
  · exact (Heap.get?_update_other _ _ hSI).trans ((Heap.get?_update_other _ _ hSI).trans hit₁)
  · exact (Heap.get?_update_other _ _ (Ne.symm hb)).trans ((Heap.get?_update_other _ _ (Ne.symm hb)).trans (Heap.get?_push_of_some _ e))
theorem init_rangeL {R : Result → Shared → Prop} (hh : A.handled = none) (hr : IsRange s.heap r a b c t u v) (hbig : Builtin.Range.small a b c = false) (hn : Builtin.Range.rangeSize a b c = n) (hlen : n ≤ 2 ^ 24) (S : Addr) (hS : s.heap.get? S = some { cls := .type "list", data := .seq #[] })
    (hR : ∀ h' tk acc' c', (∀ b o, b ≠ S → s.heap.get? b = some o → h'.get? b = some o) → h'.get? S = some { cls := .type "list", dict := none, data := .seq acc' c', slots := #[] } → ItemsOf (fun i x => ∃ t, x = .int (a + i * c) t) acc' n → R (.ok (.ret .none)) { s with heap := h', toks := tk }) :
    wpAny (model prog w) A.in1 (Builtin.«list.__init__» ⟨[.ref S, .ref r], []⟩)
      (fun fin s' => match fin with | .done f => R (.ok f) s' | .again c' => c'.quiet = true ∧ codeAny (model prog w) A c' R s') (fun e s' => R (.error e) s') s := by
  have hSr : S ≠ r := fun e => by rw [e, hr] at hS; simp at hS
  show wpAny _ _ (do let old ← Builtin.List.listItems (.ref S); Builtin.List.listUpdate (.ref S) (fun _ => #[]); letGo old.toList.reverse; Builtin.List.listExtendWith (.ref S) (.ref r) .none) _ _ s
  refine wpAny_bind ?_
  unfold Builtin.List.listItems
  refine wpAny_bind (wpAny_seqItems hS rfl (wpAny_pure ?_))
  show wpAny _ _ (updateSeq S (fun _ => #[]) >>= fun _ => letGo (#[] : Array Value).toList.reverse >>= fun _ => Builtin.List.listExtendWith (.ref S) (.ref r) .none) _ _ s
  refine wpAny_bind (wpAny_updateSeq hS rfl ?_)
  have hS₂ := Heap.get?_update_self (Obj.mapSeq (fun _ => (#[] : Array Value))) hS rfl
  have oth : ∀ b o, b ≠ S → s.heap.get? b = some o → (s.heap.update S (Obj.mapSeq (fun _ => (#[] : Array Value)))).get? b = some o :=
    fun b o hb e => (Heap.get?_update_other _ _ (Ne.symm hb)).trans e
  refine wpAny_bind (wpAny_letGo ?_)
  refine ext_rangeL hh (oth r _ (Ne.symm hSr) hr) hbig hn hlen S .none _ hS₂ fun h' tk acc' c' hk hS' hacc => ?_
  exact hR h' tk acc' c' (fun b o hb e => hk b o hb (oth b o hb e)) hS' hacc
theorem call_list_rangeL {Q : Value → Shared → Prop} (hh : A.handled = none) (hr : IsRange s.heap r a b c t u v) (hbig : Builtin.Range.small a b c = false) (hn : Builtin.Range.rangeSize a b c = n) (hlen : n ≤ 2 ^ 24)
    (hQ : ∀ h' tk acc' c', (∀ b o, s.heap.get? b = some o → h'.get? b = some o) → h'.get? s.heap.objs.size = some { cls := .type "list", dict := none, data := .seq acc' c', slots := #[] } → ItemsOf (fun i x => ∃ t, x = .int (a + i * c) t) acc' n → Q (.ref s.heap.objs.size) { s with heap := h', toks := tk }) :
    wpAny (model prog w) A (call (.type "list") [.ref r]) Q E s := by
  refine callType_codes (Q₁ := fun obj s₁ => obj = .ref s.heap.objs.size ∧ s₁ = { s with heap := s.heap.push { cls := .type "list", data := .seq #[] } }) PySem.F.called_list (PySem.F.typeCall_list_1 _) PySem.F.entry_list_init
    (code_list_new _ ⟨rfl, rfl⟩) fun obj s₁ h₁ => ?_
  obtain ⟨rfl, rfl⟩ := h₁
  have hS : (s.heap.push { cls := .type "list", data := .seq #[] }).get? s.heap.objs.size = some { cls := .type "list", data := .seq #[] } := Heap.get?_push_size _ rfl
  refine ⟨⟨_, hS, rfl⟩, PySem.F.args_list_init_2 _ _, init_rangeL (A := A.in1) hh (Heap.get?_push_of_some _ hr) hbig hn hlen _ hS fun h' tk acc' c' hk hS' hacc => ?_⟩
  exact ⟨rfl, hQ h' tk acc' c' (fun b o e => hk b o (Nat.ne_of_lt (Heap.lt_size e)) (Heap.get?_push_of_some _ e)) hS' hacc⟩
end
section
variable {B : Bs} {W : WX} {X : Cx} {e e2 tg : Expr} {pos : Pos} {fr : Env → M (List DD)} {fa fb : Env → M DD}
def tLstRL (te : L2.St → Hp → (Int → Int → Hp → Prop) → Prop) : TE := fun σ H Q => te σ H fun a b H1 => (b - a).toNat ≤ 2 ^ 20 ∧ ∀ q, H1 q = none → Q (.ref q) (upd H1 q (.lst (rgV a b)))
theorem pe_listRL {p pos : Pos} {te : L2.St → Hp → (Int → Int → Hp → Prop) → Prop} (hc : X.calm = true) (hg : Gl X "list") (hm : X.mg "list" = none) (he : PRg X e te) (na : starEach [e] X.env = (false, eval e X.env) :: starEach [] X.env := by rfl) : PE X (.Call (.Name "list" p) [e] [] pos) (tLstRL te) := by
  refine ⟨fun pins s σ H Q I h => ?_⟩
  refine Call_ (ld_blt I hg hm boot_list (PyProof.Rows.callWith_type1 (args_cons (thn (he pins s σ H _ I h) fun x s1 ⟨r, a, b, t, u, v, H1, ex, hr, I1, ok, q⟩ => args_nil ?_) na) na))
  subst ex
  have h24 : (b - a).toNat ≤ 2 ^ 24 := Nat.le_trans ok (by decide)
  have fin : ∀ h' tk acc c', (∀ b o, s1.heap.get? b = some o → h'.get? b = some o) → h'.get? s1.heap.objs.size = some { cls := .type "list", dict := none, data := .seq acc c', slots := #[] } → ItemsOf (fun i v => ∃ t, v = .int (a + i * 1) t) acc (b - a).toNat →
      EP X pins σ Q (.ref s1.heap.objs.size) { s1 with heap := h', toks := tk } := fun h' tk acc c' hk e' hi => by
    refine ⟨.ref s1.heap.objs.size, upd H1 s1.heap.objs.size (.lst (rgV a b)), I1.laid hk (Nat.le_refl _) (show ObjOk X.prog X.w _ _ _ (.lst (rgV a b)) from ⟨?_, acc.toList, c', vals_rg hi, ?_⟩), rfl, q _ (I1.hok.fresh (Nat.le_refl _))⟩
    · rw [rgV_length, sizeLine_eq]; omega
    · rw [Array.toArray_toList]; exact e'
  cases hs : Builtin.Range.small a b 1 with
  | true => exact call_list_range (n := (b - a).toNat) (I1.ok.hd hc) hr hs (rangeSize_nat a b) h24 fin
  | false => exact call_list_rangeL (n := (b - a).toNat) (I1.ok.hd hc) hr hs (rangeSize_nat a b) h24 fin
end
end AU
/-! tuple(zip(x, y)): pairs that are kept -/
namespace AU
open PySem PySem.Spec
section
variable {prog : Program} {w : World} {A : Around} {E : Value → Shared → Prop} {s : Shared} {z TI TO i1 i2 T : Addr} {fp1 fp2 : List Addr} {n1 n2 i : Nat} {P1 P2 : Nat → Value → Prop} {St1 St2 : Nat → Heap → Prop} {a1 a2 : Value} {b : Bool} {oT : Obj}
/-- a zip whose last pair is still there -/
abbrev ZB (h : Heap) (z TI TO T : Addr) (b : Bool) : Prop := h.get? z = some { cls := .type "zip", dict := none, data := .fields #[rawInt T, .bool b, .bool false, .ref TI, .ref TO], slots := #[] }
theorem zipB_notFree {hp : Heap} {g : Array GenState} {d : Drawn} {tk0 : Nat} {os : OsState} (hz : ZB hp z TI TO T b) (hT : hp.get? T = some oT) :
    wpAny (model prog w) A (Builtin.SmallTypes.ownedTupleIsFree (.ref z)) (fun r s' => r = false ∧ ∃ h₃, s' = ⟨h₃, g, d, tk0, os⟩ ∧ ZB h₃ z TI TO T true ∧ Heap.SameBut z hp h₃) E ⟨hp, g, d, tk0, os⟩ := by
  unfold Builtin.SmallTypes.ownedTupleIsFree
  refine wpAny_bind (wpAny_field (s := ⟨hp, g, d, tk0, os⟩) hz rfl (x := rawInt T) rfl ?_)
  show wpAny _ _ (loadIfAlive ((T : Int).toNat) >>= _) _ _ _
  rw [Int.toNat_natCast]
  refine wpAny_bind (PySem.W.kdx_alive (s := ⟨hp, g, d, tk0, os⟩) hT ?_)
  simp only [Option.isNone_some, Bool.false_eq_true, if_false]
  refine wpAny_bind (wpAny_field (s := ⟨hp, g, d, tk0, os⟩) hz rfl (x := .bool b) rfl ?_)
  cases b with
  | true =>
    rw [if_neg (show ¬ ((Value.bool true != Value.bool true) = true) from Bool.false_ne_true)]
    exact wpAny_pure ⟨rfl, hp, rfl, hz, Heap.SameBut.refl _ _⟩
  | false =>
    rw [if_pos (show (Value.bool false != Value.bool true) = true from rfl)]
    refine wpAny_bind (wpAny_setField_rec hz (by simp) fun h₃ he₃ hs₃ => ?_)
    replace hs₃ : Heap.SameBut z hp h₃ := hs₃
    replace he₃ : ZB h₃ z TI TO T true := he₃
    exact wpAny_pure ⟨rfl, h₃, rfl, he₃, hs₃⟩
theorem zipB_next_item {Q : Value → Shared → Prop} (S : ZipSep2 z TI TO i1 i2 fp1 fp2) (D1 : Draws prog w A i1 fp1 n1 P1 St1) (D2 : Draws prog w A i2 fp2 n2 P2 St2)
    (hz : ZB s.heap z TI TO T b) (hT : s.heap.get? T = some oT) (hTz : T ≠ z) (hTI : IsTupOf2 s.heap TI (.ref i1) (.ref i2)) (st1 : St1 i s.heap) (st2 : St2 i s.heap) (hlt1 : i < n1) (hlt2 : i < n2)
    (hQ : ∀ x1 x2 h' tk, P1 i x1 → P2 i x2 → ZB h' z TI TO T true → St1 (i + 1) h' → St2 (i + 1) h' → IsTupOf2 h' s.heap.objs.size x1 x2 → h'.objs.size = s.heap.objs.size + 1 →
      (∀ c o, c ≠ z → c ≠ i1 → c ≠ i2 → s.heap.get? c = some o → h'.get? c = some o) → Q (.ref s.heap.objs.size) { s with heap := h', toks := tk }) :
    wpAny (model prog w) A (Builtin.«zip.__next__» ⟨[.ref z], []⟩) (fun fin s' => ∃ v, fin = .done (.ret v) ∧ Q v s') E s := by
  obtain ⟨hp, g, d, tk0, os⟩ := s
  show wpAny _ _ (field (.ref z) 2 >>= _) _ _ _
  refine wpAny_bind (wpAny_field hz rfl (x := .bool false) rfl ?_)
  show wpAny _ _ (field (.ref z) 3 >>= _) _ _ _
  refine wpAny_bind (wpAny_field hz rfl (x := .ref TI) rfl ?_)
  refine wpAny_bind (wpAny_seqItems hTI rfl ?_)
  show wpAny _ _ (Builtin.SmallTypes.ownedTupleIsFree (.ref z) >>= _) _ _ _
  refine wpAny_bind (wpAny_mono (zipB_notFree hz hT) (fun r s' h => ?_) fun _ _ e => e)
  obtain ⟨rfl, h₃, rfl, hz₃, hs₃⟩ := h
  simp only [Bool.false_eq_true, if_false]
  refine wpAny_bind ?_
  first
  | rw [List.forIn_toArray]
  | (rw [← Array.forIn_toList]; simp only [List.toList_toArray])
  | rw [← Array.forIn_toList]
  simp only [List.forIn_cons, List.forIn_nil]
  refine wpAny_bind (wpAny_bind (wpAny_holding ?_))
  show wpAny _ _ (Builtin.SmallTypes.nextOf (.ref i1) >>= _) _ _ ⟨h₃, g, d, tk0, os⟩
  refine wpAny_bind (D1.item i _ _ _ hlt1 (D1.over st1 hs₃ S.zf1) fun x1 p1 tk1 hx1 sn1 hp1 => wpAny_pure ?_)
  replace hp1 : Heap.SameBut i1 h₃ p1 := hp1
  refine wpAny_pure (wpAny_bind (wpAny_bind (wpAny_holding ?_)))
  show wpAny _ _ (Builtin.SmallTypes.nextOf (.ref i2) >>= _) _ _ ⟨p1, g, d, tk1, os⟩
  refine wpAny_bind (D2.item i _ _ _ hlt2 (D2.over (D2.over st2 hs₃ S.zf2) hp1 S.sep1_2) fun x2 p2 tk2 hx2 sn2 hp2 => wpAny_pure ?_)
  replace hp2 : Heap.SameBut i2 p1 p2 := hp2
  refine wpAny_pure (wpAny_pure ?_)
  show wpAny _ _ (newTuple [x1, x2] >>= _) _ _ ⟨p2, g, d, tk2, os⟩
  refine wpAny_bind (wpAny_newTuple ?_)
  refine wpAny_pure ⟨_, rfl, ?_⟩
  have hsz : p2.objs.size = hp.objs.size := by rw [hp2.1, hp1.1, hs₃.1]
  have hzz : ZB p2 z TI TO T true := hp2.extBut _ _ S.zi2 (hp1.extBut _ _ S.zi1 hz₃)
  have hnew : IsTupOf2 (p2.push { cls := .type "tuple", data := .seq #[x1, x2] }) hp.objs.size x1 x2 := by rw [← hsz]; exact Heap.get?_push_size _ rfl
  show Q (.ref p2.objs.size) _
  rw [hsz]
  exact hQ x1 x2 _ tk2 hx1 hx2 (Heap.get?_push_of_some _ hzz) (D1.frame _ _ _ (D1.over sn1 hp2 S.sep2_1) fun b _ o e => Heap.get?_push_of_some _ e) (D2.frame _ _ _ sn2 fun b _ o e => Heap.get?_push_of_some _ e) hnew (by rw [Heap.size_push, hsz])
    fun c o cz c1 c2 e => Heap.get?_push_of_some _ (hp2.extBut _ _ c2 (hp1.extBut _ _ c1 (hs₃.extBut _ _ cz e)))
theorem zipB_next_end {Q : Fin → Shared → Prop} (S : ZipSep2 z TI TO i1 i2 fp1 fp2) (D1 : Draws prog w A i1 fp1 n1 P1 St1) (D2 : Draws prog w A i2 fp2 n2 P2 St2)
    (hz : ZB s.heap z TI TO T b) (hT : s.heap.get? T = some oT) (hTI : IsTupOf2 s.heap TI (.ref i1) (.ref i2)) (st1 : St1 i s.heap) (st2 : St2 i s.heap) (hle1 : i ≤ n1) (hle2 : i ≤ n2) (hend : i = n1 ∨ i = n2)
    (hE : ∀ h' tk e, (∀ c o, c ≠ z → c ≠ i1 → c ≠ i2 → s.heap.get? c = some o → h'.get? c = some o) → (∃ o, h'.get? e = some o ∧ o.cls = .type "StopIteration") → E (.ref e) { s with heap := h', toks := tk }) :
    wpAny (model prog w) A (Builtin.«zip.__next__» ⟨[.ref z], []⟩) Q E s := by
  obtain ⟨hp, g, d, tk0, os⟩ := s
  show wpAny _ _ (field (.ref z) 2 >>= _) _ _ _
  refine wpAny_bind (wpAny_field hz rfl (x := .bool false) rfl ?_)
  show wpAny _ _ (field (.ref z) 3 >>= _) _ _ _
  refine wpAny_bind (wpAny_field hz rfl (x := .ref TI) rfl ?_)
  refine wpAny_bind (wpAny_seqItems hTI rfl ?_)
  show wpAny _ _ (Builtin.SmallTypes.ownedTupleIsFree (.ref z) >>= _) _ _ _
  refine wpAny_bind (wpAny_mono (zipB_notFree hz hT) (fun r s' h => ?_) fun _ _ e => e)
  obtain ⟨rfl, h₃, rfl, hz₃, hs₃⟩ := h
  simp only [Bool.false_eq_true, if_false]
  refine wpAny_bind ?_
  first
  | rw [List.forIn_toArray]
  | (rw [← Array.forIn_toList]; simp only [List.toList_toArray])
  | rw [← Array.forIn_toList]
  simp only [List.forIn_cons, List.forIn_nil]
  refine wpAny_bind (wpAny_bind (wpAny_holding ?_))
  show wpAny _ _ (Builtin.SmallTypes.nextOf (.ref i1) >>= _) _ _ ⟨h₃, g, d, tk0, os⟩
  by_cases hlt1 : i < n1
  · have hi2 : i = n2 := by omega
    refine wpAny_bind (D1.item i _ _ _ hlt1 (D1.over st1 hs₃ S.zf1) fun x1 p1 tk1 hx1 sn1 hp1 => wpAny_pure ?_)
    replace hp1 : Heap.SameBut i1 h₃ p1 := hp1
    refine wpAny_pure (wpAny_bind (wpAny_bind (wpAny_holding ?_)))
    show wpAny _ _ (Builtin.SmallTypes.nextOf (.ref i2) >>= _) _ _ ⟨p1, g, d, tk1, os⟩
    refine wpAny_bind (D2.done ⟨p1, g, d, tk1, os⟩ _ _ (by rw [← hi2]; exact D2.over (D2.over st2 hs₃ S.zf2) hp1 S.sep1_2) fun q e hq he => ?_)
    replace hq : Heap.ExtBut i2 p1 q := hq
    exact hE q tk1 e (fun c o cz c1 c2 x => hq _ _ c2 (hp1.extBut _ _ c1 (hs₃.extBut _ _ cz x))) he
  · have hi1 : i = n1 := by omega
    refine wpAny_bind (D1.done ⟨h₃, g, d, tk0, os⟩ _ _ (by rw [← hi1]; exact D1.over st1 hs₃ S.zf1) fun q e hq he => ?_)
    replace hq : Heap.ExtBut i1 h₃ q := hq
    exact hE q tk0 e (fun c o cz c1 c2 x => hq _ _ c1 (hs₃.extBut _ _ cz x)) he
theorem pyNext_zipB_item {Q : Option Value → Shared → Prop} (S : ZipSep2 z TI TO i1 i2 fp1 fp2) (D1 : Draws prog w A.in1 i1 fp1 n1 P1 St1) (D2 : Draws prog w A.in1 i2 fp2 n2 P2 St2)
    (hz : ZB s.heap z TI TO T b) (hT : s.heap.get? T = some oT) (hTz : T ≠ z) (hTI : IsTupOf2 s.heap TI (.ref i1) (.ref i2)) (st1 : St1 i s.heap) (st2 : St2 i s.heap) (hlt1 : i < n1) (hlt2 : i < n2)
    (hQ : ∀ x1 x2 h' tk, P1 i x1 → P2 i x2 → ZB h' z TI TO T true → St1 (i + 1) h' → St2 (i + 1) h' → IsTupOf2 h' s.heap.objs.size x1 x2 → h'.objs.size = s.heap.objs.size + 1 →
      (∀ c o, c ≠ z → c ≠ i1 → c ≠ i2 → s.heap.get? c = some o → h'.get? c = some o) → Q (some (.ref s.heap.objs.size)) { s with heap := h', toks := tk }) :
    wpAny (model prog w) A (pyNext (.ref z)) Q E s := by
  have hTy : s.TypeIs (.ref z) "zip" := ⟨_, hz, rfl⟩
  unfold pyNext
  exact wpAny_bind (wpAny_attempt (wpAny_callSpecial?_slot (name := Str.ofString "__next__") hTy PySem.F.slot_zip_next
    (wpAny_call_entry PySem.F.slot_zip_next hTy PySem.F.entry_zip_next
      (zipB_next_item S D1 D2 hz hT hTz hTI st1 st2 hlt1 hlt2 fun x1 x2 h' tk y1 y2 b1 d1 d2 b5 b6 b7 => wpAny_pure (hQ x1 x2 h' tk y1 y2 b1 d1 d2 b5 b6 b7)) (PySem.F.args_zip_next_1 _))))
theorem pyNext_zipB_end {Q : Option Value → Shared → Prop} (S : ZipSep2 z TI TO i1 i2 fp1 fp2) (D1 : Draws prog w A.in1 i1 fp1 n1 P1 St1) (D2 : Draws prog w A.in1 i2 fp2 n2 P2 St2)
    (hz : ZB s.heap z TI TO T b) (hT : s.heap.get? T = some oT) (hTI : IsTupOf2 s.heap TI (.ref i1) (.ref i2)) (st1 : St1 i s.heap) (st2 : St2 i s.heap) (hle1 : i ≤ n1) (hle2 : i ≤ n2) (hend : i = n1 ∨ i = n2)
    (hQ : ∀ h' tk, (∀ c o, c ≠ z → c ≠ i1 → c ≠ i2 → s.heap.get? c = some o → h'.get? c = some o) → Q none { s with heap := h', toks := tk }) : wpAny (model prog w) A (pyNext (.ref z)) Q E s := by
  have hTy : s.TypeIs (.ref z) "zip" := ⟨_, hz, rfl⟩
  unfold pyNext
  refine wpAny_bind (wpAny_attempt (wpAny_callSpecial?_slot (name := Str.ofString "__next__") hTy PySem.F.slot_zip_next
    (wpAny_call_entry PySem.F.slot_zip_next hTy PySem.F.entry_zip_next (zipB_next_end S D1 D2 hz hT hTI st1 st2 hle1 hle2 hend fun h' tk e hk he => ?_) (PySem.F.args_zip_next_1 _))))
  obtain ⟨o, ho, hc⟩ := he
  refine wpAny_bind (wpAny_isInstance (T := "StopIteration") (b := true) ⟨o, ho, hc⟩ isSubtype_stop ?_)
  exact wpAny_pure (hQ _ _ hk)
end
end AU
/-! tuple(zip(x, y)) -/
namespace AU
open PySem PySem.Spec
structure MadeZ (P1 P2 : Nat → Value → Prop) (lo : Addr) (h : Heap) (as : List Addr) : Prop where
  rise : as.Pairwise (· < ·)
  above : ∀ a ∈ as, lo < a
  pairs : ∀ (j : Nat) (a : Addr), as[j]? = some a → ∃ x y, P1 j x ∧ P2 j y ∧ IsTupOf2 h a x y
theorem MadeZ.at' {P1 P2 : Nat → Value → Prop} {lo : Addr} {h : Heap} {as : List Addr} (g : MadeZ P1 P2 lo h as) {a : Addr} (ha : a ∈ as) : ∃ x y, IsTupOf2 h a x y := by
  obtain ⟨j, hj⟩ := List.mem_iff_getElem?.mp ha
  obtain ⟨x, y, _, _, e⟩ := g.pairs j a hj
  exact ⟨x, y, e⟩
theorem MadeZ.low {P1 P2 : Nat → Value → Prop} {lo lo' : Addr} {h : Heap} {as : List Addr} (g : MadeZ P1 P2 lo h as) (hl : lo' ≤ lo) : MadeZ P1 P2 lo' h as := ⟨g.rise, fun a ha => Nat.lt_of_le_of_lt hl (g.above a ha), g.pairs⟩
theorem MadeZ.keeps {P1 P2 : Nat → Value → Prop} {lo : Addr} {h h' : Heap} {as : List Addr} (g : MadeZ P1 P2 lo h as) (k : ∀ a o, lo < a → h.get? a = some o → h'.get? a = some o) : MadeZ P1 P2 lo h' as :=
  ⟨g.rise, g.above, fun j a hj => by
    obtain ⟨x, y, p1, p2, e⟩ := g.pairs j a hj
    exact ⟨x, y, p1, p2, k a _ (g.above a (List.mem_of_getElem? hj)) e⟩⟩
/-- the zip as it stands when these pairs were made -/
def ZSt (h : Heap) (z TI TO : Addr) (as : List Addr) : Prop := (as = [] ∧ IsZip h z TI TO .none ∧ ∃ a1 a2, IsTupOf2 h TO a1 a2) ∨ ∃ T b, T ∈ as ∧ ZB h z TI TO T b
section
variable {prog : Program} {w : World} {A : Around} {E : Value → Shared → Prop} {s : Shared} {z TI TO i1 i2 lo : Addr} {fp1 fp2 : List Addr} {n1 n2 i : Nat} {P1 P2 : Nat → Value → Prop} {St1 St2 : Nat → Heap → Prop} {as : List Addr}
theorem nxtZ {Q : Option Value → Shared → Prop} (S : ZipSep2 z TI TO i1 i2 fp1 fp2) (D1 : Draws prog w A.in1 i1 fp1 n1 P1 St1) (D2 : Draws prog w A.in1 i2 fp2 n2 P2 St2) (zs : ZSt s.heap z TI TO as) (hG : MadeZ P1 P2 lo s.heap as) (hlo : z < lo)
    (hTI : IsTupOf2 s.heap TI (.ref i1) (.ref i2)) (st1 : St1 i s.heap) (st2 : St2 i s.heap) (hlt1 : i < n1) (hlt2 : i < n2)
    (hQ : ∀ x1 x2 h' tk, P1 i x1 → P2 i x2 → ZSt h' z TI TO (as ++ [s.heap.objs.size]) → St1 (i + 1) h' → St2 (i + 1) h' → IsTupOf2 h' s.heap.objs.size x1 x2 → h'.objs.size = s.heap.objs.size + 1 →
      (∀ c o, c ≠ z → c ≠ TO → c ≠ i1 → c ≠ i2 → s.heap.get? c = some o → h'.get? c = some o) → Q (some (.ref s.heap.objs.size)) { s with heap := h', toks := tk }) :
    wpAny (model prog w) A (pyNext (.ref z)) Q E s := by
  rcases zs with ⟨rfl, hz, a1, a2, hTO⟩ | ⟨T, b, hT, hz⟩
  · exact wpAny_pyNext_zipD2_item S D1 D2 hz hTI hTO st1 st2 hlt1 hlt2 fun x1 x2 h' tk y1 y2 b1 b2 d1 d2 b5 b6 b7 => hQ x1 x2 h' tk y1 y2 (.inr ⟨_, false, by simp, b1⟩) d1 d2 b5 b6 b7
  · obtain ⟨x, y, e⟩ := hG.at' hT
    exact pyNext_zipB_item S D1 D2 hz e (Nat.ne_of_gt (Nat.lt_trans hlo (hG.above T hT))) hTI st1 st2 hlt1 hlt2 fun x1 x2 h' tk y1 y2 b1 d1 d2 b5 b6 b7 => hQ x1 x2 h' tk y1 y2 (.inr ⟨T, true, by simp [hT], b1⟩) d1 d2 b5 b6 fun c o cz _ c1 c2 e => b7 c o cz c1 c2 e
theorem finZ {Q : Option Value → Shared → Prop} (S : ZipSep2 z TI TO i1 i2 fp1 fp2) (D1 : Draws prog w A.in1 i1 fp1 n1 P1 St1) (D2 : Draws prog w A.in1 i2 fp2 n2 P2 St2) (zs : ZSt s.heap z TI TO as) (hG : MadeZ P1 P2 lo s.heap as) (hlo : z < lo)
    (hTI : IsTupOf2 s.heap TI (.ref i1) (.ref i2)) (st1 : St1 i s.heap) (st2 : St2 i s.heap) (hle1 : i ≤ n1) (hle2 : i ≤ n2) (hend : i = n1 ∨ i = n2)
    (hQ : ∀ h' tk, (∀ c o, c ≠ z → c ≠ TO → c ≠ i1 → c ≠ i2 → s.heap.get? c = some o → h'.get? c = some o) → Q none { s with heap := h', toks := tk }) : wpAny (model prog w) A (pyNext (.ref z)) Q E s := by
  rcases zs with ⟨rfl, hz, a1, a2, hTO⟩ | ⟨T, b, hT, hz⟩
  · exact wpAny_pyNext_zipD2_end S D1 D2 hz hTI hTO st1 st2 hle1 hle2 hend hQ
  · obtain ⟨x, y, e⟩ := hG.at' hT
    exact pyNext_zipB_end S D1 D2 hz e hTI st1 st2 hle1 hle2 hend fun h' tk k => hQ h' tk fun c o cz _ c1 c2 e => k c o cz c1 c2 e
end
section
variable {prog : Program} {w : World} {A : Around} {s : Shared} {R : Result → Shared → Prop} {z TI TO i1 i2 S0 : Addr} {fp1 fp2 : List Addr} {n1 n2 : Nat} {P1 P2 : Nat → Value → Prop} {St1 St2 : Nat → Heap → Prop}
theorem loopZ (S : ZipSep2 z TI TO i1 i2 fp1 fp2) (D1 : Draws prog w A.in1.in1 i1 fp1 n1 P1 St1) (D2 : Draws prog w A.in1.in1 i2 fp2 n2 P2 St2) (hz : z < S0) (hTI' : TI < S0) (hTO : TO < S0) (hi1 : i1 < S0) (hi2 : i2 < S0) (hf1 : S0 ∉ fp1) (hf2 : S0 ∉ fp2)
    (hn : min n1 n2 ≤ sizeLine) (res : Value) {h₁ : Heap}
    (hR : ∀ h' tk acc c as, (∀ b o, b ≠ S0 → b ≠ z → b ≠ TO → b ≠ i1 → b ≠ i2 → h₁.get? b = some o → h'.get? b = some o) → h'.get? S0 = some { cls := .type "list", dict := none, data := .seq acc c, slots := #[] } → as.length = min n1 n2 → MadeZ P1 P2 S0 h' as →
      acc.toList = as.map Value.ref → R (.ok (.ret res)) { s with heap := h', toks := tk }) :
    ∀ (k i : Nat) (h : Heap) (tk c : Nat) (acc : Array Value) (as : List Addr), min n1 n2 - i = k → i ≤ min n1 n2 → ZSt h z TI TO as → IsTupOf2 h TI (.ref i1) (.ref i2) → St1 i h → St2 i h → (∀ b o, b ≠ S0 → b ≠ z → b ≠ TO → b ≠ i1 → b ≠ i2 → h₁.get? b = some o → h.get? b = some o) →
      h.get? S0 = some { cls := .type "list", dict := none, data := .seq acc c, slots := #[] } → acc.toList = as.map Value.ref → as.length = i → MadeZ P1 P2 S0 h as →
      codeAny (model prog w) A (.builtin "list.extend.loop" ⟨[.ref S0, .ref z, res], []⟩) R { s with heap := h, toks := tk } := by
  have nz : S0 ≠ z := Nat.ne_of_gt hz
  have nTO : S0 ≠ TO := Nat.ne_of_gt hTO
  have n1' : S0 ≠ i1 := Nat.ne_of_gt hi1
  have n2' : S0 ≠ i2 := Nat.ne_of_gt hi2
  intro k
  induction k with
  | zero =>
    intro i h tk c acc as hk hi zs hTI st1 st2 hkeep hS hacc hal hG
    refine codeAny_builtin PySem.F.entry_extend_loop ?_
    rw [Around.under_plainId PySem.F.plain_extend_loop _]
    show wpAny _ A.in1 (pyNext (.ref z) >>= _) _ _ _
    refine wpAny_bind (finZ (s := { s with heap := h, toks := tk }) (A := A.in1) S D1 D2 zs hG hz hTI st1 st2 (by omega) (by omega) (by omega) fun h' tk' he => ?_)
    refine wpAny_pure (hR h' tk' acc c as (fun b o h1 h2 h3 h4 h5 e => he b o h2 h3 h4 h5 (hkeep b o h1 h2 h3 h4 h5 e)) (he S0 _ nz nTO n1' n2' hS) (by omega) (hG.keeps fun a o hl e => he a o (Nat.ne_of_gt (Nat.lt_trans hz hl)) (Nat.ne_of_gt (Nat.lt_trans hTO hl)) (Nat.ne_of_gt (Nat.lt_trans hi1 hl)) (Nat.ne_of_gt (Nat.lt_trans hi2 hl)) e) hacc)
  | succ k ih =>
    intro i h tk c acc as hk hi zs hTI st1 st2 hkeep hS hacc hal hG
    have hlt : i < min n1 n2 := by omega
    have hsz : acc.size = i := by rw [← Array.length_toList, hacc, List.length_map, hal]
    refine codeAny_builtin PySem.F.entry_extend_loop ?_
    rw [Around.under_plainId PySem.F.plain_extend_loop _]
    show wpAny _ A.in1 (pyNext (.ref z) >>= _) _ _ _
    refine wpAny_bind (nxtZ (s := { s with heap := h, toks := tk }) (A := A.in1) S D1 D2 zs hG hz hTI st1 st2 (by omega) (by omega) fun x1 x2 h' tk' p1 p2 zs' st1' st2' ht hz' hkp => ?_)
    dsimp only at zs' ht hz' hkp ⊢
    have hS' := hkp S0 _ nz nTO n1' n2' hS
    have up : ∀ b o, b ≠ S0 → h'.get? b = some o → (h'.update S0 (Obj.mapSeq (·.push (Value.ref h.objs.size)))).get? b = some o := fun b o hb e => (Heap.get?_update_other _ _ (Ne.symm hb)).trans e
    have hSl : S0 < h.objs.size := Heap.lt_size hS
    show wpAny _ A.in1 (updateSeq S0 (·.push (Value.ref h.objs.size)) >>= _) _ _ _
    refine wpAny_bind ?_
    refine wpAny_updateSeq hS' rfl (wpAny_pure ⟨plainId_quiet PySem.F.plain_extend_loop _, ih (i + 1) _ tk' _ (acc.push (Value.ref h.objs.size)) (as ++ [h.objs.size]) (by omega) hlt ?_ ?_ (D1.frame _ _ _ st1' fun b hb o e => up b o (fun q => hf1 (q ▸ hb)) e) (D2.frame _ _ _ st2' fun b hb o e => up b o (fun q => hf2 (q ▸ hb)) e)
      (fun b o h1 h2 h3 h4 h5 e => up b o h1 (hkp b o h2 h3 h4 h5 (hkeep b o h1 h2 h3 h4 h5 e))) (Heap.get?_update_self _ hS' rfl) (by rw [Array.toList_push, hacc, List.map_append]; rfl) (by rw [List.length_append, hal]; rfl) ⟨?_, ?_, ?_⟩⟩) (by rw [hsz]; omega) (by show (acc.push (Value.ref h.objs.size)).size ≤ sizeLine + 1; rw [Array.size_push, hsz]; omega)
    · rcases zs' with ⟨e, _⟩ | ⟨T, b, hT, hzb⟩
      · simp at e
      · exact .inr ⟨T, b, hT, up _ _ (Ne.symm nz) hzb⟩
    · exact up _ _ (Nat.ne_of_lt hTI') (hkp _ _ S.TIz S.TITO S.TIi1 S.TIi2 hTI)
    · refine List.pairwise_append.mpr ⟨hG.rise, List.pairwise_singleton _ _, fun a ha b hb => ?_⟩
      rw [List.mem_singleton.mp hb]
      obtain ⟨x, y, e⟩ := hG.at' ha
      exact Heap.lt_size e
    · intro a ha
      rcases List.mem_append.mp ha with ha | ha
      · exact hG.above a ha
      · rw [List.mem_singleton.mp ha]; exact hSl
    · intro j b hj
      rcases Nat.lt_trichotomy j as.length with h1 | h1 | h1
      · rw [List.getElem?_append_left h1] at hj
        obtain ⟨x, y, q1, q2, e3⟩ := hG.pairs j b hj
        have hb := hG.above b (List.mem_of_getElem? hj)
        exact ⟨x, y, q1, q2, up b _ (Nat.ne_of_gt hb) (hkp b _ (Nat.ne_of_gt (Nat.lt_trans hz hb)) (Nat.ne_of_gt (Nat.lt_trans hTO hb)) (Nat.ne_of_gt (Nat.lt_trans hi1 hb)) (Nat.ne_of_gt (Nat.lt_trans hi2 hb)) e3)⟩
      · subst h1
        have hb : h.objs.size = b := by simpa using hj
        subst hb
        exact ⟨x1, x2, by rw [hal]; exact p1, by rw [hal]; exact p2, up _ _ (Nat.ne_of_gt hSl) ht⟩
      · have hnone : (as ++ [h.objs.size])[j]? = none := List.getElem?_eq_none (by rw [List.length_append, List.length_singleton]; omega)
        rw [hnone] at hj; cases hj
theorem zip_no_len : typeLookup (.type "zip") "__len__" = pure none := by rw [typeLookup_type, builtinLookup_eq_fast]; kernel_rfl
theorem zip_no_hint : typeLookup (.type "zip") "__length_hint__" = pure none := by rw [typeLookup_type, builtinLookup_eq_fast]; kernel_rfl
end
section
variable {prog : Program} {w : World} {A : Around} {E : Value → Shared → Prop} {s : Shared} {z TI TO i1 i2 : Addr} {fp1 fp2 : List Addr} {n1 n2 : Nat} {P1 P2 : Nat → Value → Prop} {St1 St2 : Nat → Heap → Prop} {a1 a2 : Value}
theorem collectZ {Q : List Value → Shared → Prop} (S : ZipSep2 z TI TO i1 i2 fp1 fp2) (D1 : Draws prog w A.in1.in1 i1 fp1 n1 P1 St1) (D2 : Draws prog w A.in1.in1 i2 fp2 n2 P2 St2) (hz : IsZip s.heap z TI TO .none) (hTI : IsTupOf2 s.heap TI (.ref i1) (.ref i2)) (hTO : IsTupOf2 s.heap TO a1 a2)
    (st1 : St1 0 s.heap) (st2 : St2 0 s.heap) (hb1 : ∀ b ∈ fp1, b < s.heap.objs.size) (hb2 : ∀ b ∈ fp2, b < s.heap.objs.size) (hn : min n1 n2 ≤ sizeLine)
    (h : ∀ (h' : Heap) (tk : Nat) (as : List Addr), (∀ b o, b ≠ z → b ≠ TO → b ≠ i1 → b ≠ i2 → s.heap.get? b = some o → h'.get? b = some o) → s.heap.objs.size ≤ h'.objs.size → as.length = min n1 n2 → MadeZ P1 P2 s.heap.objs.size h' as → Q (as.map Value.ref) { s with heap := h', toks := tk }) :
    wpAny (model prog w) A (collect (.ref z)) Q E s := by
  have lz : z < s.heap.objs.size := Heap.lt_size hz
  have lTI : TI < s.heap.objs.size := Heap.lt_size hTI
  have lTO : TO < s.heap.objs.size := Heap.lt_size hTO
  have l1 : i1 < s.heap.objs.size := hb1 _ S.mem1
  have l2 : i2 < s.heap.objs.size := hb2 _ S.mem2
  unfold collect
  refine wpAny_bind (wpAny_runValue (codeAny_builtin PySem.F.entry_proto_collect ?_))
  rw [Around.under_plainId PySem.F.plain_proto_collect _]
  show wpAny _ A.in1 (newList [] >>= fun l => again (.builtin "list.__iadd__" ⟨[l, .ref z], []⟩)) _ _ s
  refine wpAny_bind (wpAny_newObj_type ?_)
  refine wpAny_pure ⟨plainId_quiet PySem.F.plain_list_iadd _, codeAny_builtin PySem.F.entry_list_iadd ?_⟩
  rw [Around.under_plainId PySem.F.plain_list_iadd _]
  have hS₁ : (s.heap.push { cls := .type "list", data := .seq ([] : List Value).toArray }).get? s.heap.objs.size = some { cls := .type "list", data := .seq ([] : List Value).toArray } := Heap.get?_push_size _ rfl
  have up : ∀ b o, s.heap.get? b = some o → (s.heap.push { cls := .type "list", data := .seq ([] : List Value).toArray }).get? b = some o := fun b o e => Heap.get?_push_of_some _ e
  have hz1 : IsZip (s.heap.push { cls := .type "list", data := .seq ([] : List Value).toArray }) z TI TO .none := up _ _ hz
  show wpAny _ A.in1 (Builtin.List.listExtendWith (.ref s.heap.objs.size) (.ref z) (.ref s.heap.objs.size)) _ _ _
  unfold Builtin.List.listExtendWith
  refine wpAny_bind (wpAny_typeOf (T := "zip") ⟨_, hz1, rfl⟩ ?_)
  have h1 : Builtin.List.listSameRef (.ref s.heap.objs.size) (.ref z) = false := by simp [Builtin.List.listSameRef, Nat.ne_of_gt lz]
  have h2 : (Value.type "zip" == Value.type "list") = false := by decide
  have h3 : (Value.type "zip" == Value.type "tuple") = false := by decide
  simp only [h1, h2, h3, Bool.or_false, Bool.false_eq_true, if_false]
  refine wpAny_bind (wpAny_pyIter_zip hz1 ?_)
  refine wpAny_bind (wpAny_holding ?_)
  unfold Builtin.List.listLengthHint
  refine wpAny_bind (wpAny_specialOf ⟨_, hz1, rfl⟩ zip_no_len ?_)
  show wpAny _ A.in1 (specialOf (Value.ref z) (Str.ofString "__length_hint__") >>= _) _ _ _
  refine wpAny_bind (wpAny_specialOf ⟨_, hz1, rfl⟩ zip_no_hint ?_)
  refine wpAny_pure ?_
  show wpAny _ A.in1 (rule "list.extend.makes-room" >>= fun _ => Builtin.List.listTouch (.ref s.heap.objs.size) >>= fun _ =>
    again (.builtin "list.extend.loop" ⟨[.ref s.heap.objs.size, .ref z, .ref s.heap.objs.size], []⟩)) _ _ _
  refine wpAny_bind (wpAny_rule ?_)
  refine wpAny_bind ?_
  show wpAny _ A.in1 (updateSeq s.heap.objs.size (·.push .none) >>= fun _ => updateSeq s.heap.objs.size (·.pop)) _ _ _
  refine wpAny_bind (wpAny_updateSeq hS₁ rfl ?_)
  have hS₂ := Heap.get?_update_self (Obj.mapSeq (·.push Value.none)) hS₁ rfl
  refine wpAny_updateSeq (hz := by seq_fits) hS₂ rfl ?_
  have hS₃ := Heap.get?_update_self (Obj.mapSeq (·.pop)) hS₂ rfl
  have oth : ∀ b o, b ≠ s.heap.objs.size → s.heap.get? b = some o →
      (((s.heap.push { cls := .type "list", data := .seq ([] : List Value).toArray }).update s.heap.objs.size (Obj.mapSeq (·.push Value.none))).update s.heap.objs.size (Obj.mapSeq (·.pop))).get? b = some o :=
    fun b o hb e => (Heap.get?_update_other _ _ (Ne.symm hb)).trans ((Heap.get?_update_other _ _ (Ne.symm hb)).trans (up b o e))
  have oth' : ∀ b o, s.heap.get? b = some o → (((s.heap.push { cls := .type "list", data := .seq ([] : List Value).toArray }).update s.heap.objs.size (Obj.mapSeq (·.push Value.none))).update s.heap.objs.size (Obj.mapSeq (·.pop))).get? b = some o :=
    fun b o e => oth b o (Nat.ne_of_lt (Heap.lt_size e)) e
  have key := loopZ (prog := prog) (w := w) (A := A) (s := s) (S0 := s.heap.objs.size) (P1 := P1) (P2 := P2) (h₁ := s.heap)
    (R := fun (q : Result) (s' : Shared) => ∃ (h' : Heap) (tk : Nat) (acc' : Array Value) (c' : Nat) (as : List Addr), q = .ok (.ret (.ref s.heap.objs.size)) ∧ s' = { s with heap := h', toks := tk } ∧
      (∀ b o, b ≠ z → b ≠ TO → b ≠ i1 → b ≠ i2 → s.heap.get? b = some o → h'.get? b = some o) ∧ h'.get? s.heap.objs.size = some { cls := .type "list", dict := none, data := .seq acc' c', slots := #[] } ∧ as.length = min n1 n2 ∧ MadeZ P1 P2 s.heap.objs.size h' as ∧ acc'.toList = as.map Value.ref)
    S D1 D2 lz lTI lTO l1 l2 (fun q => Nat.lt_irrefl _ (hb1 _ q)) (fun q => Nat.lt_irrefl _ (hb2 _ q)) hn (.ref s.heap.objs.size)
    (fun h' tk acc' c' as hk hS' hl hG hacc => ⟨h', tk, acc', c', as, rfl, rfl, fun b o b2 b3 b4 b5 e => hk b o (Nat.ne_of_lt (Heap.lt_size e)) b2 b3 b4 b5 e, hS', hl, hG, hacc⟩)
    (min n1 n2) 0 _ s.toks _ #[] [] rfl (Nat.zero_le _) (.inl ⟨rfl, oth' _ _ hz, _, _, oth' _ _ hTO⟩) (oth' _ _ hTI) (D1.frame _ _ _ st1 fun b hb o e => oth' b o e) (D2.frame _ _ _ st2 fun b hb o e => oth' b o e) (fun b o hb _ _ _ _ e => oth b o hb e) hS₃ rfl rfl
    ⟨List.Pairwise.nil, (fun _ ha => nomatch ha), (fun j a hj => by simp at hj)⟩
  refine wpAny_pure ⟨plainId_quiet PySem.F.plain_extend_loop _, codeAny_mono key fun q s₂ y => ?_⟩
  obtain ⟨h', tk, acc', c', as, rfl, rfl, hk, hS', hl, hG, hacc⟩ := y
  show wpAny _ A (load s.heap.objs.size >>= _) _ _ _
  refine wpAny_bind (wpAny_load hS' ?_)
  refine wpAny_pure ?_
  show Q acc'.toList _
  rw [hacc]
  exact h h' tk as hk (Nat.le_of_lt (Heap.lt_size hS')) hl hG
end
end AU
/-! tuple(zip(x, y)) over the layer -/
namespace AU
open PySem PySem.Spec PyProof.Rows L2
section
variable {prog : Program} {w : World} {A : Around} {E : Value → Shared → Prop} {s : Shared} {z TI TO i1 i2 : Addr} {fp1 fp2 : List Addr} {n1 n2 : Nat} {P1 P2 : Nat → Value → Prop} {St1 St2 : Nat → Heap → Prop} {a1 a2 : Value}
theorem code_tuple_new_zip {Q₁ : Value → Shared → Prop} (S : ZipSep2 z TI TO i1 i2 fp1 fp2) (D1 : Draws prog w A.in1.in1.in1 i1 fp1 n1 P1 St1) (D2 : Draws prog w A.in1.in1.in1 i2 fp2 n2 P2 St2) (hz : IsZip s.heap z TI TO .none) (hTI : IsTupOf2 s.heap TI (.ref i1) (.ref i2)) (hTO : IsTupOf2 s.heap TO a1 a2)
    (st1 : St1 0 s.heap) (st2 : St2 0 s.heap) (hb1 : ∀ b ∈ fp1, b < s.heap.objs.size) (hb2 : ∀ b ∈ fp2, b < s.heap.objs.size) (hn : min n1 n2 ≤ sizeLine)
    (h : ∀ (h' : Heap) (tk : Nat) (as : List Addr), (∀ b o, b ≠ z → b ≠ TO → b ≠ i1 → b ≠ i2 → s.heap.get? b = some o → h'.get? b = some o) → s.heap.objs.size ≤ h'.objs.size → as.length = min n1 n2 → MadeZ P1 P2 s.heap.objs.size h' as →
      Q₁ (.ref h'.objs.size) { s with heap := h'.push { cls := .type "tuple", data := .seq (as.map Value.ref).toArray }, toks := tk }) :
    codeAny (model prog w) A (.call (.builtin "tuple.__new__") ⟨[.type "tuple", .ref z], []⟩) (wants Q₁ E) s := by
  refine codeAny_of_tree ?_
  show wpAny _ A.in1 (do checkBuiltinCall "tuple.__new__" ⟨[.type "tuple", .ref z], []⟩; again (.builtin "tuple.__new__" ⟨[.type "tuple", .ref z], []⟩)) _ _ s
  refine wpAny_bind (wpAny_of_eq (PySem.F.newCall_tuple_1 _) (wpAny_pure ⟨plainId_quiet PySem.F.plain_tuple_new _, codeAny_builtin PySem.F.entry_tuple_new ?_⟩))
  rw [Around.under_plainId PySem.F.plain_tuple_new _]
  have hsub := sub_tuple_self
  have hinit := init_tuple_lookup
  have hmh := madeHere_tuple
  have hTy : s.TypeIs (.ref z) "zip" := ⟨_, hz, rfl⟩
  wp_walk using wpAny_typeOf hTy, collectZ (A := A.in1) (P1 := P1) (P2 := P2) S D1 D2 hz hTI hTO st1 st2 hb1 hb2 hn
  intro h' tk as hk hle hl hG
  show wpAny _ _ (Builtin.Tuple.tupleExact (as.map Value.ref).toArray >>= fun v => PySem.ret v) _ _ _
  unfold Builtin.Tuple.tupleExact
  refine wpAny_bind (wpAny_newObj_type ?_ (by show (as.map Value.ref).toArray.size ≤ sizeLine; simp; omega))
  refine wpAny_pure ?_
  exact h h' tk as hk hle hl hG
theorem call_tuple_zip {Q : Value → Shared → Prop} (S : ZipSep2 z TI TO i1 i2 fp1 fp2) (D1 : Draws prog w A.in1.in1.in1.in1 i1 fp1 n1 P1 St1) (D2 : Draws prog w A.in1.in1.in1.in1 i2 fp2 n2 P2 St2) (hz : IsZip s.heap z TI TO .none) (hTI : IsTupOf2 s.heap TI (.ref i1) (.ref i2)) (hTO : IsTupOf2 s.heap TO a1 a2)
    (st1 : St1 0 s.heap) (st2 : St2 0 s.heap) (hb1 : ∀ b ∈ fp1, b < s.heap.objs.size) (hb2 : ∀ b ∈ fp2, b < s.heap.objs.size) (hn : min n1 n2 ≤ sizeLine)
    (h : ∀ (h' : Heap) (tk : Nat) (as : List Addr), (∀ b o, b ≠ z → b ≠ TO → b ≠ i1 → b ≠ i2 → s.heap.get? b = some o → h'.get? b = some o) → s.heap.objs.size ≤ h'.objs.size → as.length = min n1 n2 → MadeZ P1 P2 s.heap.objs.size h' as →
      Q (.ref h'.objs.size) { s with heap := h'.push { cls := .type "tuple", data := .seq (as.map Value.ref).toArray }, toks := tk }) :
    wpAny (model prog w) A (call (.type "tuple") [.ref z]) Q E s := by
  refine callType_codes (Q₁ := fun obj s₁ => s₁.TypeIs obj "tuple" ∧ Q obj s₁) PySem.F.called_tuple (PySem.F.typeCall_tuple_1 _) PySem.F.entry_object_init
    (code_tuple_new_zip (A := A.in1) (P1 := P1) (P2 := P2) S D1 D2 hz hTI hTO st1 st2 hb1 hb2 hn fun h' tk as hk hle hl hG => ⟨⟨_, Heap.get?_push_size _ rfl, rfl⟩, h h' tk as hk hle hl hG⟩) fun obj s₁ h₁ => ?_
  exact ⟨h₁.1, PySem.F.args_object_init_2 obj _, object_init_meets PySem.F.called_tuple.init.lookup PySem.F.called_tuple.made (by decide) prog w A.in1 _ s₁ ⟨h₁.1, rfl, h₁.2⟩⟩
end
/-- tuples laid one after another -/
def layT : List (Addr × List V) → Hp → Hp
  | [], H => H
  | p :: L, H => layT L (upd H p.1 (.tup p.2))
section
variable {X : Cx} {pins : List (Addr × Obj)} {σ : L2.St}
theorem inv_lays {H0 : Hp} {s : Shared} {h' : Heap} {tk : Nat} (I0 : Inv X pins σ H0 s) : ∀ (L : List (Addr × List V)) (H1 : Hp), Inv X pins σ H1 { s with heap := h', toks := tk } → (L.map (·.1)).Nodup →
    (∀ p ∈ L, s.heap.objs.size ≤ p.1 ∧ H1 p.1 = none ∧ ∀ H2, ObjOk X.prog X.w H2 h' p.1 (.tup p.2)) → Inv X pins σ (layT L H1) { s with heap := h', toks := tk }
  | [], H1, I1, _, _ => I1
  | p :: L, H1, I1, hn, h => by
    obtain ⟨hb, hnone, ok⟩ := h p (List.mem_cons_self ..)
    have I2 : Inv X pins σ (upd H1 p.1 (.tup p.2)) { s with heap := h', toks := tk } := I1.take (h' := h') (t' := tk) (fun b ob _ e => e) (I0.fpOk hb hnone) (ok _)
    rw [List.map_cons, List.nodup_cons] at hn
    exact inv_lays I0 L _ I2 hn.2 fun c hc => by
      obtain ⟨c1, c2, c3⟩ := h c (List.mem_cons_of_mem _ hc)
      exact ⟨c1, by rw [upd_ne (fun z => hn.1 (by rw [← z]; exact List.mem_map.mpr ⟨c, hc, rfl⟩))]; exact c2, c3⟩
theorem layT_out : ∀ (L : List (Addr × List V)) (H : Hp) (a : Addr), a ∉ L.map (·.1) → layT L H a = H a
  | [], _, _, _ => rfl
  | p :: L, H, a, h => by
    rw [List.map_cons, List.mem_cons, not_or] at h
    show layT L (upd H p.1 (.tup p.2)) a = _
    rw [layT_out L _ a h.2, upd_ne h.1]
def SrcZ (X : Cx) (s : Shared) (a : Addr) (its : List Value) : Prop := ∃ (oI : Obj) (Hs : Heap → Prop), Begins (.ref a) oI Hs ∧ Hs s.heap ∧ a < s.heap.objs.size ∧
  ∀ (A : Around) (it : Addr), A.handled = none → a ≠ it → ∃ St, Draws X.prog X.w A it [it, a] its.toArray.size (fun i v => its.toArray[i]? = some v) St ∧ ∀ h', h'.get? it = some oI → Hs h' → St 0 h'
theorem src_of {H : Hp} {s : Shared} {a : Addr} {xs : List V} (I : Inv X pins σ H s) (q : SqT X.K H a xs ∨ SqL X.K H a xs) : ∃ its, Vals xs its ∧ xs.length ≤ sizeLine ∧ SrcZ X s a its := by
  rcases q with q | q
  · obtain ⟨its, rv, p, hz⟩ := I.tuple q
    have p' : s.heap.IsTuple a its.toArray := p
    obtain ⟨o, ho, _⟩ := id p
    exact ⟨its, rv, hz, _, _, begins_tuple a its.toArray, p', Heap.lt_size ho, fun A it hh hne => ⟨_, Draws.tuple hh it a hne its.toArray, fun h' e hs => ⟨⟨_, e, rfl, rfl⟩, hs⟩⟩⟩
  · obtain ⟨its, rv, p, hz⟩ := I.list q
    exact ⟨its, rv, hz, _, _, begins_list a its.toArray, p.isList, p.lt, fun A it hh hne => ⟨_, Draws.list hh it a hne its.toArray, fun h' e hs => ⟨⟨_, e, rfl, rfl⟩, hs⟩⟩⟩
def tTupZip (K : PySem.W.Frag) (ta : TA) : TE := fun σ H Q => ta σ H fun vs H1 => ∃ (a b : Addr) (xs ys : List V), vs = [.ref a, .ref b] ∧ (SqT K H1 a xs ∨ SqL K H1 a xs) ∧ (SqT K H1 b ys ∨ SqL K H1 b ys) ∧
  ∀ (as : List Addr) (q : Addr), as.length = min xs.length ys.length → as.Nodup → (∀ c ∈ as, H1 c = none) → H1 q = none → q ∉ as → Q (.ref q) (upd (layT (as.zip ((xs.zip ys).map fun p => [p.1, p.2])) H1) q (.tup (as.map V.ref)))
theorem pe_tupZip {e e2 : Expr} {ta : TA} {p p2 pos pos2 : Pos} (hc : X.calm = true) (hg : Gl X "tuple") (hm : X.mg "tuple" = none) (hg2 : Gl X "zip") (hm2 : X.mg "zip" = none) (ha : PA X [e, e2] ta)
    (hs : starEach [e, e2] X.env = (false, eval e X.env) :: starEach [e2] X.env := by rfl) (hpl : (backTo pos2 (starEach [e2] X.env)).any (·.1) = false := by rfl)
    (na : starEach [Expr.Call (.Name "zip" p2) [e, e2] [] pos2] X.env = (false, eval (Expr.Call (.Name "zip" p2) [e, e2] [] pos2) X.env) :: starEach [] X.env := by rfl) :
    PE X (.Call (.Name "tuple" p) [.Call (.Name "zip" p2) [e, e2] [] pos2] [] pos) (tTupZip X.K ta) := by
  refine ⟨fun pins s σ H Q I h => ?_⟩
  refine Call_ (ld_blt I hg hm boot_tuple (PyProof.Rows.callWith_type1 (args_cons ?_ na) na))
  have hh : X.A.handled = none := I.ok.hd hc
  refine Call_ (ld_blt I hg2 hm2 PyProof.Rows.boot_zip (PyProof.Rows.callWith_type1 (thn (ha.run pos2 pins s σ H _ I h) fun us s1 ⟨vs, H1, I1, r1, q1⟩ => ?_) hs hpl))
  obtain ⟨a, b, xs, ys, ex, qx, qy, q1⟩ := q1
  subst ex
  cases r1 with
  | cons r rr =>
    cases rr with
    | cons r' rr =>
      cases rr
      cases r
      cases r'
      obtain ⟨its, rv, hz1, oI, Hs, B1, h1, la, D1⟩ := src_of I1 qx
      obtain ⟨its2, rv2, hz2, oI2, Hs2, B2, h2, lb, D2⟩ := src_of I1 qy
      refine zip_begins2 B1 B2 h1 h2 fun h' hz hTI hTO g1 g2 hsz hk => args_nil ?_
      have hne1 : a ≠ s1.heap.objs.size := Nat.ne_of_lt la
      have hne2 : b ≠ s1.heap.objs.size + 1 := Nat.ne_of_lt (Nat.lt_succ_of_lt lb)
      obtain ⟨St1, d1, i1⟩ := D1 X.A.in1.in1.in1.in1 s1.heap.objs.size hh hne1
      obtain ⟨St2, d2, i2⟩ := D2 X.A.in1.in1.in1.in1 (s1.heap.objs.size + 1) hh hne2
      have sep : ZipSep2 (s1.heap.objs.size + 4) (s1.heap.objs.size + 2) (s1.heap.objs.size + 3) s1.heap.objs.size (s1.heap.objs.size + 1) (s1.heap.objs.size :: [a]) ((s1.heap.objs.size + 1) :: [b]) :=
        zip_sep2 (fun c hc => by rw [List.mem_singleton.mp hc]; exact la) (fun c hc => by rw [List.mem_singleton.mp hc]; exact lb)
      have lx := rv.length
      have ly := rv2.length
      refine call_tuple_zip (s := { s1 with heap := h' }) sep d1 d2 hz hTI hTO (i1 h' g1 (B1.keeps _ _ h1 hk)) (i2 h' g2 (B2.keeps _ _ h2 hk)) (fun c hc => ?_) (fun c hc => ?_) (by simp; omega) fun h'' tk as hk2 hle hl hG => ?_
      · show c < h'.objs.size
        rw [hsz]
        rcases List.mem_cons.mp hc with e | e
        · rw [e]; exact Nat.lt_add_of_pos_right (by decide)
        · rw [List.mem_singleton.mp e]; exact Nat.lt_of_lt_of_le la (Nat.le_add_right _ _)
      · show c < h'.objs.size
        rw [hsz]
        rcases List.mem_cons.mp hc with e | e
        · rw [e]; exact Nat.add_lt_add_left (by decide) _
        · rw [List.mem_singleton.mp e]; exact Nat.lt_of_lt_of_le lb (Nat.le_add_right _ _)
      have hsz' : h'.objs.size = s1.heap.objs.size + 5 := hsz
      have hle' : h'.objs.size ≤ h''.objs.size := hle
      have keep : ∀ c o, s1.heap.get? c = some o → h''.get? c = some o := fun c o e => by
        have lt := Heap.lt_size e
        exact hk2 c o (Nat.ne_of_lt (Nat.lt_of_lt_of_le lt (Nat.le_add_right _ _))) (Nat.ne_of_lt (Nat.lt_of_lt_of_le lt (Nat.le_add_right _ _))) (Nat.ne_of_lt lt) (Nat.ne_of_lt (Nat.lt_succ_of_lt lt)) (hk c o e)
      have I2 : Inv X pins σ H1 { s1 with heap := h'', toks := tk } := I1.kept keep
      have nd : as.Nodup := List.Pairwise.imp (fun h => Nat.ne_of_lt h) hG.rise
      have low : ∀ c ∈ as, s1.heap.objs.size ≤ c := fun c hc => by
        have := hG.above c hc
        have e : h'.objs.size < c := this
        omega
      have hlen : as.length = min xs.length ys.length := by rw [hl]; simp; omega
      have fstL : (as.zip ((xs.zip ys).map fun p => [p.1, p.2])).map (·.1) = as := by
        rw [List.map_fst_zip]
        simp
        omega
      have I3 := inv_lays I1 (as.zip ((xs.zip ys).map fun p => [p.1, p.2])) H1 I2 (by rw [fstL]; exact nd) fun c hc => by
        obtain ⟨j, hj⟩ := List.mem_iff_getElem?.mp hc
        rw [List.getElem?_zip_eq_some, List.getElem?_map] at hj
        obtain ⟨hj1, hj2⟩ := hj
        obtain ⟨pr, hp1, hp2⟩ := Option.map_eq_some_iff.mp hj2
        rw [List.getElem?_zip_eq_some] at hp1
        obtain ⟨hp3, hp4⟩ := hp1
        obtain ⟨x, y, e1, e2, e3⟩ := hG.pairs j c.1 hj1
        obtain ⟨u, hu, ru⟩ := rv.get hp3
        obtain ⟨u2, hu2, ru2⟩ := rv2.get hp4
        have ex : u = x := by
          have e1' : its[j]? = some x := by simpa using e1
          rw [hu] at e1'
          exact Option.some.inj e1'
        have ey : u2 = y := by
          have e2' : its2[j]? = some y := by simpa using e2
          rw [hu2] at e2'
          exact Option.some.inj e2'
        subst ex ey
        refine ⟨low _ (List.mem_of_getElem? hj1), I1.hok.fresh (low _ (List.mem_of_getElem? hj1)), fun H2 => ?_⟩
        rw [← hp2]
        exact ⟨by show 2 ≤ sizeLine; decide, [u, u2], .cons ru (.cons ru2 .nil), ⟨_, e3, rfl, _, rfl⟩⟩
      have hq : as.length ≤ sizeLine := by omega
      have qfresh : H1 h''.objs.size = none := I1.hok.fresh (by omega)
      have qnot : h''.objs.size ∉ as := fun hm => by
        obtain ⟨x, y, e⟩ := hG.at' hm
        exact Nat.lt_irrefl _ (Heap.lt_size e)
      have rel : Vals (as.map V.ref) (as.map Value.ref) := by
        clear hlen fstL I3 hq qnot low nd hG hl
        induction as with
        | nil => exact .nil
        | cons c cs ih => exact .cons rfl ih
      refine ⟨.ref h''.objs.size, upd _ h''.objs.size (.tup (as.map V.ref)), I3.laid (t' := tk) (fun c o e => Heap.get?_push_of_some _ e) (Nat.le_refl _) (show ObjOk X.prog X.w _ _ _ (.tup (as.map V.ref)) from ⟨by rw [List.length_map]; exact hq, as.map Value.ref, rel, IsTup.new _ _⟩), rfl, ?_⟩
      exact q1 as h''.objs.size hlen nd (fun c hc => I1.hok.fresh (low c hc)) qfresh qnot
end
end AU
/-! ranges of any size, list(range(i, j)), tuple(zip(x, y)) as data -/
namespace AU
open PySem PySem.Spec PyProof.Rows L2
section
variable {B : Bs} {W : WX} {X : Cx} {e e2 tg : Expr} {pos : Pos} {fr : Env → M (List DD)} {fa fb : Env → M DD} {env : Env} {S : Sr} {σ : L2.St} {F H : Hp} {sa : Option Addr}
def jRng2L (f : Env → M (List DD)) : Env → M (List DD) := fun env => bnd (f env) fun ds => match ds with
  | [.int i, .int j] => if decide (j - i ≤ 1000) = true then ret (rngD i (j - i).toNat) else stk
  | _ => stk
@[simp] theorem jRng2L_app (f : Env → M (List DD)) (env : Env) : jRng2L f env = bnd (f env) fun ds => match ds with
  | [.int i, .int j] => if decide (j - i ≤ 1000) = true then ret (rngD i (j - i).toNat) else stk
  | _ => stk := rfl
theorem dj_rng2L {p : Pos} (hm : X.mg "range" = none) (ha : DA X B W [e, e2] fr) (hg : Gl X "range" := by rfl) (hs : starEach [e, e2] X.env = [(false, eval e X.env), (false, eval e2 X.env)] := by rfl) (hs2 : starEach [e2] X.env = [(false, eval e2 X.env)] := by rfl) : DJ X B W tg (.Call (.Name "range" p) [e, e2] [] pos) (jRng2L fr) := by
  obtain ⟨t, pp, s⟩ := ha.ex
  refine ⟨_, pi_range2L hg hm pp hs hs2, fun env S σ F H sa k R hr => s env S σ F H sa k _ ((Post.bnd hr).imp fun ds S1 h1 vs F1 H1 k1 g1 r1 => ?_)⟩
  split at h1
  · obtain ⟨c, h1⟩ := post_if h1
    obtain ⟨v, w, rfl, r2, r3⟩ := rpa2 r1
    cases r2.int_inv
    cases r3.int_inv
    exact ⟨_, _, rfl, h1 _ F1 H1 k1 g1 itw_rng⟩
  · exact h1.elim
def eLRg2 (fa fb : Env → M DD) : Env → M DD := fun env => bnd (fa env) fun x => bnd (fb env) fun y => match x, y with
  | .int i, .int j => if decide (j - i ≤ 1000) = true then ret (.lst (rngD i (j - i).toNat)) else stk
  | _, _ => stk
@[simp] theorem eLRg2_app (fa fb : Env → M DD) (env : Env) : eLRg2 fa fb env = bnd (fa env) fun x => bnd (fb env) fun y => match x, y with
  | .int i, .int j => if decide (j - i ≤ 1000) = true then ret (.lst (rngD i (j - i).toNat)) else stk
  | _, _ => stk := rfl
theorem rpA_rg2 {K : PySem.W.Frag} {F : Hp} (a : Int) : ∀ (l : List Nat), RpA K F (l.map fun i => V.int (a + (i : Nat))) (l.map fun i => DD.int (a + (i : Nat)))
  | [] => .nil
  | x :: l => .cons (.int _) (rpA_rg2 a l)
theorem de_lrg2 {p p2 pos2 : Pos} (hc : X.calm = true) (hm : X.mg "list" = none) (hm2 : X.mg "range" = none) (ha : DE X B W e fa) (hb : DE X B W e2 fb) (hg : Gl X "list" := by rfl) (hg2 : Gl X "range" := by rfl)
    (na : starEach [e, e2] X.env = (false, eval e X.env) :: starEach [e2] X.env := by rfl) (nb : starEach [e2] X.env = (false, eval e2 X.env) :: starEach [] X.env := by rfl) (hp : (backTo pos2 (starEach [e2] X.env)).any (·.1) = false := by rfl)
    (nc : starEach [Expr.Call (.Name "range" p2) [e, e2] [] pos2] X.env = (false, eval (Expr.Call (.Name "range" p2) [e, e2] [] pos2) X.env) :: starEach [] X.env := by rfl) :
    DE X B W (.Call (.Name "list" p) [.Call (.Name "range" p2) [e, e2] [] pos2] [] pos) (eLRg2 fa fb) := by
  obtain ⟨t, pp, s⟩ := ha.ex
  obtain ⟨t2, pp2, s2⟩ := hb.ex
  refine ⟨_, pe_listRL hc hg hm (prg_2 hg2 hm2 pp pp2 na nb hp) nc, fun env S σ F H sa k Q h => s env S σ F H sa k _ ((Post.bnd h).imp fun d S1 h1 v F1 H1 k1 g1 r1 => s2 env S1 σ F1 H1 sa k1 _ ((Post.bnd (Post.same g1 h1)).imp fun d2 S2 h2 v2 F2 H2 k2 g2 r2 => ?_))⟩
  split at h2
  · obtain ⟨c, h3⟩ := post_if h2
    cases r1.int_inv
    cases r2.int_inv
    have c' := of_decide_eq_true c
    refine ⟨_, _, rfl, rfl, ?_, good_sameF g2 k2 h3 fun p F' e hp => .lst hp ?_⟩
    · have : (2 : Nat) ^ 20 = 1048576 := by decide
      omega
    · unfold rgV rngD
      exact rpA_rg2 _ _
  · exact h2.elim
/-! ### tuple(zip(x, y)) -/
def seqD : DD → Option (List DD)
  | .lst xs => some xs
  | .tup xs => some xs
  | _ => none
@[simp] theorem seqD_lst (xs : List DD) : seqD (.lst xs) = some xs := rfl
@[simp] theorem seqD_tup (xs : List DD) : seqD (.tup xs) = some xs := rfl
def bTZ : List DD → M DD
  | [x, y] => match seqD x, seqD y with
    | some xs, some ys => ret (.tup (zipD xs ys))
    | _, _ => stk
  | _ => stk
@[simp] theorem bTZ_2 (x y : DD) : bTZ [x, y] = (match seqD x, seqD y with
    | some xs, some ys => ret (.tup (zipD xs ys))
    | _, _ => stk) := rfl
theorem seq_inv {K : PySem.W.Frag} {F : Hp} {v : V} {x : DD} {ds : List DD} (h : seqD x = some ds) (r : Rp K F v x) : ∃ a xs, v = .ref a ∧ (SqT K F a xs ∨ SqL K F a xs) ∧ RpA K F xs ds := by
  cases x with
  | lst xs =>
    cases h
    obtain ⟨a, ws, rfl, h1, h2⟩ := r.lst_inv
    exact ⟨a, ws, rfl, .inr (SqL.of h1), h2⟩
  | tup xs =>
    cases h
    obtain ⟨a, ws, rfl, h1, h2⟩ := r.tup_inv
    exact ⟨a, ws, rfl, .inl h1, h2⟩
  | _ => cases h
theorem Ok.lays : ∀ (L : List (Addr × List V)) {F H : Hp}, Ok B env S σ F H sa → (L.map (·.1)).Nodup → (∀ p ∈ L, H p.1 = none) → ∃ F', Ok B env S σ F' (layT L H) sa ∧ Gw B sa F H F' (layT L H) ∧ ∀ p ∈ L, F' p.1 = some (.tup p.2)
  | [], F, H, k, _, _ => ⟨F, k, Gw.refl, fun _ h => nomatch h⟩
  | p :: L, F, H, k, hn, h => by
    rw [List.map_cons, List.nodup_cons] at hn
    have hp := h p (List.mem_cons_self ..)
    have k1 := k.new hp (.tup p.2)
    obtain ⟨F', k2, g2, q⟩ := Ok.lays L k1 hn.2 fun c hc => by
      rw [upd_ne (fun z => hn.1 (by rw [← z]; exact List.mem_map.mpr ⟨c, hc, rfl⟩))]
      exact h c (List.mem_cons_of_mem _ hc)
    refine ⟨F', k2, (k.gw hp _).trans g2, fun c hc => ?_⟩
    rcases List.mem_cons.mp hc with rfl | hc
    · exact g2.ff _ _ upd_same
    · exact q c hc
theorem rpA_tz {K : PySem.W.Frag} {F : Hp} : ∀ {as : List Addr} {xs ys : List V} {ds es : List DD}, as.length = min xs.length ys.length → RpA K F xs ds → RpA K F ys es → (∀ p ∈ as.zip ((xs.zip ys).map fun p => [p.1, p.2]), F p.1 = some (.tup p.2)) → RpA K F (as.map V.ref) (zipD ds es)
  | [], xs, ys, ds, es, hl, r1, r2, _ => by
    cases r1 with
    | nil => exact .nil
    | cons a b =>
      cases r2 with
      | nil => exact .nil
      | cons c d =>
        simp at hl
  | a :: as, _, _, _, _, hl, .nil, r2, _ => by simp at hl
  | a :: as, _, _, _, _, hl, .cons r1 r1', .nil, _ => by simp at hl
  | a :: as, _, _, _, _, hl, .cons r1 r1', .cons r2 r2', h => by
    have h0 := h (a, _) (List.mem_cons_self ..)
    exact .cons (.tup (SqT.of h0) (.cons r1 (.cons r2 .nil))) (rpA_tz (by simp at hl ⊢; omega) r1' r2' fun p hp => h p (List.mem_cons_of_mem _ hp))
theorem de_tupZip {p p2 pos2 : Pos} (hK : B.K = X.K) (hc : X.calm = true) (hm : X.mg "tuple" = none) (hm2 : X.mg "zip" = none) (ha : DA X B W [e, e2] fr) (hg : Gl X "tuple" := by rfl) (hg2 : Gl X "zip" := by rfl)
    (hs : starEach [e, e2] X.env = (false, eval e X.env) :: starEach [e2] X.env := by rfl) (hpl : (backTo pos2 (starEach [e2] X.env)).any (·.1) = false := by rfl)
    (na : starEach [Expr.Call (.Name "zip" p2) [e, e2] [] pos2] X.env = (false, eval (Expr.Call (.Name "zip" p2) [e, e2] [] pos2) X.env) :: starEach [] X.env := by rfl) :
    DE X B W (.Call (.Name "tuple" p) [.Call (.Name "zip" p2) [e, e2] [] pos2] [] pos) (eB bTZ fr) := by
  obtain ⟨t, pp, s⟩ := ha.ex
  refine ⟨_, pe_tupZip hc hg hm hg2 hm2 pp hs hpl na, fun env S σ F H sa k Q h => s env S σ F H sa k _ ((Post.bnd h).imp fun ds S1 h1 vs F1 H1 k1 g1 r1 => ?_)⟩
  unfold bTZ at h1
  split at h1
  · rename_i x y
    obtain ⟨v, w, rfl, r2, r3⟩ := rpa2 r1
    cases hx : seqD x with
    | none =>
      rw [hx] at h1
      exact h1.elim
    | some xs =>
    cases hy : seqD y with
    | none =>
      rw [hx, hy] at h1
      exact h1.elim
    | some ys =>
      rw [hx, hy] at h1
      obtain ⟨a, us, rfl, q1, q2⟩ := seq_inv hx r2
      obtain ⟨b, ws, rfl, q3, q4⟩ := seq_inv hy r3
      have up : ∀ {a : Addr} {xs : List V}, (SqT B.K F1 a xs ∨ SqL B.K F1 a xs) → (SqT X.K H1 a xs ∨ SqL X.K H1 a xs) := fun q => by
        rw [← hK]
        rcases q with q | q
        · exact .inl (sqT_same k1.fh q)
        · exact .inr (Same.seq k1.fh q)
      refine ⟨a, b, us, ws, rfl, up q1, up q3, fun as q hl hn hf hq hqn => ?_⟩
      have hzl : ((us.zip ws).map fun p => [p.1, p.2]).length = as.length := by simp; omega
      have fstL : (as.zip ((us.zip ws).map fun p => [p.1, p.2])).map (·.1) = as := by
        rw [List.map_fst_zip]
        omega
      obtain ⟨F2, k2, g2, l2⟩ := Ok.lays (as.zip ((us.zip ws).map fun p => [p.1, p.2])) k1 (by rw [fstL]; exact hn) fun p hp => hf p.1 (by
        have z : p.1 ∈ (as.zip ((us.zip ws).map fun p => [p.1, p.2])).map (·.1) := List.mem_map.mpr ⟨p, hp, rfl⟩
        rw [fstL] at z
        exact z)
      have hq2 : layT (as.zip ((us.zip ws).map fun p => [p.1, p.2])) H1 q = none := by rw [layT_out _ _ _ (by rw [fstL]; exact hqn)]; exact hq
      have r : RpA B.K F2 (as.map V.ref) (zipD xs ys) := rpA_tz hl (RpA.same g2.ff _ q2) (RpA.same g2.ff _ q4) l2
      have h1' := Good.of g2 (Good.of g1 h1)
      exact good_new k2 h1' (fun p F' e hp => .tup (SqT.of hp) (RpA.same e _ r)) (fun ps z => by cases z) q hq2
  · exact h1.elim
end
end AU
/-! len(d) of a dict -/
namespace AU
open PySem PySem.Spec PyProof.Rows L2
def bLen2 : List DD → M DD
  | [.dct ks _] => ret (.int ks.length)
  | xs => bLen xs
@[simp] theorem bLen2_dct (ks vs : List DD) : bLen2 [.dct ks vs] = ret (.int ks.length) := rfl
@[simp] theorem bLen2_lst (xs : List DD) : bLen2 [.lst xs] = ret (.int xs.length) := rfl
@[simp] theorem bLen2_tup (xs : List DD) : bLen2 [.tup xs] = ret (.int xs.length) := rfl
section
variable {B : Bs} {W : WX} {X : Cx} {e : Expr} {pos : Pos} {fr : Env → M (List DD)}
theorem cr_lenX : CallR X (.builtin "len") (fun vs H Q => ∃ a xs, vs = [.ref a] ∧ Rd H a (dxO a xs) ∧ KeysX X.K H xs ∧ Q (.int xs.length) H) := by
  intro pins s σ H vs us Q I r h
  obtain ⟨a, xs, rfl, hd, hk, q⟩ := h
  obtain ⟨z, hds, ys, rel, dd⟩ := dx_full I hd hk
  rw [Vals.ref1 r]
  have hl := Paired.length rel
  refine call_len_dictH hds dd (by rw [← hl]; rw [sizeLine_eq] at z; omega) ?_
  refine ⟨.int xs.length, H, I.tok _, ⟨_, by rw [hl]⟩, q⟩
theorem de_len2 (hK : B.K = X.K) {p : Pos} (hm : X.mg "len" = none) (ha : DA X B W [e] fr) (hg : Gl X "len" := by rfl)
    (he : starEach [e] X.env = (false, eval e X.env) :: starEach [] X.env := by rfl) (hpl : (backTo pos (starEach [] X.env)).any (·.1) = false := by rfl) : DE X B W (.Call (.Name "len" p) [e] [] pos) (eB bLen2 fr) := by
  refine de_cb (CallR.or call_len cr_lenX) (fun env S σ F H sa vs ds k r Q h => ?_) hm ha hg PySem.boot_len (by decide) (by decide) he hpl
  by_cases hd : ∃ ks ws, ds = [.dct ks ws]
  · obtain ⟨ks, ws, rfl⟩ := hd
    obtain ⟨v, rfl, r1⟩ := rpa1 r
    obtain ⟨a, o, xs, rfl, h1, h2, h3, h4⟩ := r1.dct_inv
    have hl : xs.length = ks.length := by
      have := congrArg List.length h4
      simpa using this.symm
    refine .inr ⟨a, xs, rfl, .inr ⟨o, k.fh _ _ h1⟩, hK ▸ MpOk.keys k.fh ⟨h2, h3, h4⟩, ?_⟩
    · rw [hl]
      exact h _ F H k Gw.refl (.int _)
  · have e2 : bLen2 ds = bLen ds := by
      unfold bLen2
      split
      · exact absurd ⟨_, _, rfl⟩ hd
      · rfl
    rw [e2] at h
    exact .inl ((hK ▸ snd_len : CSnd B W (fun xs H Q => ∃ x n, xs = [x] ∧ LenV X.K x H n ∧ Q (.int n) H) bLen) env S σ F H sa vs ds k r Q h)
end
end AU
/-! x in l, x not in l of a list of one's own -/
namespace AU
open PySem PySem.Spec PyProof.Rows L2
def eInL (c : Bool) (i : Nat) (g : Env → M DD) : Env → M DD := fun env => bnd (g env) fun x => match env[i]? with
  | some (some (.l xs)) => if (eqOk x && eqOk (.lst xs)) = true then ret (.bl (c != memD x xs)) else stk
  | _ => stk
@[simp] theorem eInL_app (c : Bool) (i : Nat) (g : Env → M DD) (env : Env) : eInL c i g env = bnd (g env) fun x => match env[i]? with
  | some (some (.l xs)) => if (eqOk x && eqOk (.lst xs)) = true then ret (.bl (c != memD x xs)) else stk
  | _ => stk := rfl
section
variable {B : Bs} {W : WX} {X : Cx} {e2 : Expr} {fb : Env → M DD} {pos : Pos}
theorem sndE_inL {c : Bool} {i : Nat} {t2 : TE} (s2 : SndE B W t2 fb) : SndE B W (tOp (rInT B.K c) t2 (tVar i)) (eInL c i fb) := fun env S σ F H sa k Q h => by
  refine s2 env S σ F H sa k _ ((Post.bnd h).imp fun j S1 h1 w F1 H1 k1 g1 r1 => ?_)
  match q : env[i]?, h1 with
  | none, h => exact h.elim
  | some none, h => exact h.elim
  | some (some (.d _)), h => exact h.elim
  | some (some (.m _ _)), h => exact h.elim
  | some (some .s), h => exact h.elim
  | some (some (.sc _)), h => exact h.elim
  | some (some (.l xs)), h =>
    obtain ⟨b, ws, c1, c2, c3, c4, c5, c6⟩ := own_at k1 q
    refine ⟨.ref b, c1, ?_⟩
    obtain ⟨g, h⟩ := post_if h
    obtain ⟨g1', g2⟩ := Bool.and_eq_true_iff.mp g
    obtain ⟨p1, s1⟩ := Bool.and_eq_true_iff.mp (show (j.pure && SeqAt.shaped j.py) = true from g1')
    obtain ⟨p2, s3⟩ := Bool.and_eq_true_iff.mp (show ((DD.lst xs).pure && SeqAt.shaped (DD.lst xs).py) = true from g2)
    have d1 : Dp B.K H1 w j.py := Rp.dp j p1 (Rp.same k1.fh j r1)
    have d2 : Dp B.K H1 (.ref b) (.list (DD.pyA xs)) := .lst (SqL.of c5) (RpA.dp xs (by simpa [DD.pure] using p2) (RpA.same k1.fh xs c6))
    exact ⟨j.py, DD.pyA xs, d1, .inl ⟨d2, s3⟩, s1, h _ F1 H1 k1 g1 (.bl _)⟩
theorem de_inL {n : Nat} (i : Nat) {x : Str} {px : Pos} (hK : B.K = X.K) (hr : Room n X.A) (hb : DE X B W e2 fb) (hN : X.N[i]? = some x := by rfl) (hv : Vis X.env.scope x := by first | exact Or.inl rfl | exact Or.inr (Or.inl rfl) | exact Or.inr (Or.inr rfl)) (hd : (x == ("__debug__" : Str)) = false := by decide)
    (hcd : (x == ("__classdict__" : Str)) = false := by decide) (hm : behindInMarks .In (.Name x px) = false := by rfl) : DE X B W (.Compare e2 [.In] [.Name x px] pos) (eInL false i fb) := by
  obtain ⟨t2, p2, s2⟩ := hb.ex
  exact ⟨_, pe_cmpR (or_in (X := X) (by have := hr.un; omega)) p2 (pe_var (pos := px) hN hv hd hcd) hm, hK ▸ sndE_inL s2⟩
theorem de_notinL {n : Nat} (i : Nat) {x : Str} {px : Pos} (hK : B.K = X.K) (hr : Room n X.A) (hb : DE X B W e2 fb) (hN : X.N[i]? = some x := by rfl) (hv : Vis X.env.scope x := by first | exact Or.inl rfl | exact Or.inr (Or.inl rfl) | exact Or.inr (Or.inr rfl)) (hd : (x == ("__debug__" : Str)) = false := by decide)
    (hcd : (x == ("__classdict__" : Str)) = false := by decide) (hm : behindInMarks .NotIn (.Name x px) = false := by rfl) : DE X B W (.Compare e2 [.NotIn] [.Name x px] pos) (eInL true i fb) := by
  obtain ⟨t2, p2, s2⟩ := hb.ex
  exact ⟨_, pe_cmpR (or_notin (X := X) (by have := hr.un; omega)) p2 (pe_var (pos := px) hN hv hd hcd) hm, hK ▸ sndE_inL s2⟩
theorem dt_inL {n : Nat} (i : Nat) {x : Str} {px : Pos} (hK : B.K = X.K) (hr : Room n X.A) (hb : DE X B W e2 fb) (hN : X.N[i]? = some x := by rfl) (hv : Vis X.env.scope x := by first | exact Or.inl rfl | exact Or.inr (Or.inl rfl) | exact Or.inr (Or.inr rfl)) (hd : (x == ("__debug__" : Str)) = false := by decide)
    (hcd : (x == ("__classdict__" : Str)) = false := by decide) (hm : behindInMarks .In (.Name x px) = false := by rfl) : DT X B W (.Compare e2 [.In] [.Name x px] pos) (tV (eInL false i fb)) := by
  obtain ⟨t2, p2, s2⟩ := hb.ex
  exact ⟨_, pt_cmpR (or_in (X := X) (by have := hr.un; omega)) p2 (pe_var (pos := px) hN hv hd hcd) hm, sndT_val (hK ▸ sndE_inL s2)⟩
theorem dt_notinL {n : Nat} (i : Nat) {x : Str} {px : Pos} (hK : B.K = X.K) (hr : Room n X.A) (hb : DE X B W e2 fb) (hN : X.N[i]? = some x := by rfl) (hv : Vis X.env.scope x := by first | exact Or.inl rfl | exact Or.inr (Or.inl rfl) | exact Or.inr (Or.inr rfl)) (hd : (x == ("__debug__" : Str)) = false := by decide)
    (hcd : (x == ("__classdict__" : Str)) = false := by decide) (hm : behindInMarks .NotIn (.Name x px) = false := by rfl) : DT X B W (.Compare e2 [.NotIn] [.Name x px] pos) (tV (eInL true i fb)) := by
  obtain ⟨t2, p2, s2⟩ := hb.ex
  exact ⟨_, pt_cmpR (or_notin (X := X) (by have := hr.un; omega)) p2 (pe_var (pos := px) hN hv hd hcd) hm, sndT_val (hK ▸ sndE_inL s2)⟩
end
end AU
/-! dict(zip(x, y)): the walk of a zip whose pairs go into a dict -/
namespace AU
open PySem PySem.Spec PyProof.Rows L2
/-! ### the keys of a dict, drawn -/
section
variable {prog : Program} {w : World} {A : Around} {E : Value → Shared → Prop} {s : Shared}
theorem nextOf_key_item {it d : Addr} {i n ep : Nat} {od : Obj} {es : Array DictEntry} {en : DictEntry} {Q : Value → Shared → Prop} (hit : s.heap.IsKeyIter it d i n ep) (hod : s.heap.get? d = some od) (hdd : od.data = .dict es ep)
    (hsz : es.size = n) (hx : es[i]? = some en) (hQ : ∀ h', h'.IsKeyIter it d (i + 1) n ep → Heap.SameBut it s.heap h' → Q en.key { s with heap := h' }) : wpAny (model prog w) A (Builtin.SmallTypes.nextOf (.ref it)) Q E s := by
  obtain ⟨o, ho, hc, hd⟩ := id hit
  subst hsz
  obtain ⟨hlt', he⟩ := Array.getElem?_eq_some_iff.mp hx
  subst he
  unfold Builtin.SmallTypes.nextOf
  refine wpAny_bind (wpAny_callSpecial?_slot (name := Str.ofString "__next__") hit.typeIs PySem.F.slot_dict_keyiterator_next
    (wpAny_call_entry PySem.F.slot_dict_keyiterator_next hit.typeIs PySem.F.entry_dict_keyiterator_next ?_ (PySem.F.args_dict_keyiterator_next_1 _)))
  refine wpAny_bind (wpAny_pure ?_)
  refine wpAny_bind ?_
  refine wpAny_bind ?_
  first | refine wpAny_bind (wpAny_typeNameOfWhole_keyiter hit.typeIs (wpAny_pure ?_)) | refine wpAny_bind (wpAny_typeNameOf_keyiter hit.typeIs (wpAny_pure ?_))
  refine wpAny_bind (wpAny_fieldsOf ho hd ?_)
  have hown : Builtin.Dict_items.ownsTuple "dict_keyiterator" = false := by decide
  simp only [hown, Bool.false_eq_true, if_false]
  show wpAny _ _ (if (Value.ref d == Value.none) = true then _ else _) _ _ s
  rw [if_neg (show ¬ ((Value.ref d == Value.none) = true) from Bool.false_ne_true)]
  refine wpAny_bind (wpAny_pure ?_)
  refine wpAny_bind (wpAny_dictEntries hod hdd ?_)
  rw [if_neg (by simp)]
  refine wpAny_bind (wpAny_pure ?_)
  refine wpAny_bind (wpAny_dictEpoch hod hdd ?_)
  rw [if_neg (by simp)]
  refine wpAny_pure ?_
  simp only [show ¬ ((i : Int) < 0) from by omega, if_false, Int.toNat_natCast, Array.getElem?_eq_getElem hlt']
  refine wpAny_bind ?_
  first | refine wpAny_bind (wpAny_typeNameOfWhole_keyiter hit.typeIs (wpAny_pure ?_)) | refine wpAny_bind (wpAny_typeNameOf_keyiter hit.typeIs (wpAny_pure ?_))
  refine wpAny_bind (wpAny_isOneOf_keyiter hit.typeIs ?_)
  show wpAny _ _ (setField (.ref it) 1 (rawInt ((i : Int) + 1)) >>= _) _ _ s
  refine wpAny_bind (wpAny_setField ho hd (by simp) ?_)
  have hit' : (s.heap.update it (Obj.mapFields (·.setIfInBounds 1 (rawInt ((i : Int) + 1))))).IsKeyIter it d (i + 1) es.size ep :=
    ⟨_, Heap.get?_update_self _ ho (Obj.isFreed_of_fields (Obj.data_mapFields hd _)), (Obj.cls_mapFields ..).trans hc, by rw [Obj.data_mapFields hd]; simp [rawInt]⟩
  refine wpAny_bind (wpAny_holding ?_)
  refine wpAny_bind (wpAny_isOneOf_keyiter (s := { s with heap := s.heap.update it (Obj.mapFields (·.setIfInBounds 1 (rawInt ((i : Int) + 1)))) }) hit'.typeIs ?_)
  show wpAny _ _ (pure es[i].key) _ _ _
  exact wpAny_pure (wpAny_pure ⟨_, rfl, wpAny_pure (hQ _ hit' (Heap.SameBut.update ..))⟩)
theorem nextOf_key_end {it d : Addr} {i n ep : Nat} {od : Obj} {es : Array DictEntry} {Q : Value → Shared → Prop} (hh : A.handled = none) (hit : s.heap.IsKeyIter it d i n ep) (hod : s.heap.get? d = some od) (hdd : od.data = .dict es ep)
    (hsz : es.size = n) (hge : n ≤ i) (hE : ∀ h' e, Heap.ExtBut it s.heap h' → (∃ o, h'.get? e = some o ∧ o.cls = .type "StopIteration") → E (.ref e) { s with heap := h' }) : wpAny (model prog w) A (Builtin.SmallTypes.nextOf (.ref it)) Q E s := by
  obtain ⟨o, ho, hc, hd⟩ := id hit
  subst hsz
  unfold Builtin.SmallTypes.nextOf
  refine wpAny_bind (wpAny_callSpecial?_slot (name := Str.ofString "__next__") hit.typeIs PySem.F.slot_dict_keyiterator_next
    (wpAny_call_entry PySem.F.slot_dict_keyiterator_next hit.typeIs PySem.F.entry_dict_keyiterator_next ?_ (PySem.F.args_dict_keyiterator_next_1 _)))
  refine wpAny_bind (wpAny_pure ?_)
  refine wpAny_bind ?_
  refine wpAny_bind ?_
  first | refine wpAny_bind (wpAny_typeNameOfWhole_keyiter hit.typeIs (wpAny_pure ?_)) | refine wpAny_bind (wpAny_typeNameOf_keyiter hit.typeIs (wpAny_pure ?_))
  refine wpAny_bind (wpAny_fieldsOf ho hd ?_)
  have hown : Builtin.Dict_items.ownsTuple "dict_keyiterator" = false := by decide
  simp only [hown, Bool.false_eq_true, if_false]
  show wpAny _ _ (if (Value.ref d == Value.none) = true then _ else _) _ _ s
  rw [if_neg (show ¬ ((Value.ref d == Value.none) = true) from Bool.false_ne_true)]
  refine wpAny_bind (wpAny_pure ?_)
  refine wpAny_bind (wpAny_dictEntries hod hdd ?_)
  rw [if_neg (by simp)]
  refine wpAny_bind (wpAny_pure ?_)
  refine wpAny_bind (wpAny_dictEpoch hod hdd ?_)
  rw [if_neg (by simp)]
  refine wpAny_pure ?_
  simp only [show ¬ ((i : Int) < 0) from by omega, if_false, Int.toNat_natCast, Array.getElem?_eq_none hge]
  refine wpAny_bind ?_
  first | refine wpAny_bind (wpAny_typeNameOfWhole_keyiter hit.typeIs (wpAny_pure ?_)) | refine wpAny_bind (wpAny_typeNameOf_keyiter hit.typeIs (wpAny_pure ?_))
  show wpAny _ _ (setField (.ref it) 0 .none >>= _) _ _ s
  refine wpAny_bind (wpAny_setField ho hd (by simp) ?_)
  show wpAny _ _ (newExc (.type "StopIteration") [] >>= _) _ _ _
  refine wpAny_bind ?_
  simp only [newExc, newTuple]
  refine wpAny_bind (wpAny_newObj_type ?_ (by size_fits))
  refine wpAny_bind (m := firstArgMember _ _) (wpAny_of_eq (a := Value.none) (by first | rfl | (simp only [firstArgMember]; rfl)) ?_)
  refine wpAny_newObj_type ?_ (by size_fits)
  simp only [raiseNew]
  refine wpAny_bind (wpAny_handled ?_)
  first | rw [show A.in1.handled = none from hh] | rw [hh]
  refine wpAny_bind (wpAny_pure (wpAny_throw ?_))
  exact hE _ _ (((Heap.SameBut.update ..).extBut.push _).push _) ⟨_, Heap.get?_push_size _ rfl, rfl⟩
/-- the keys of a dict that stays as it is -/
theorem Draws.keysX {A : Around} (hh : A.handled = none) (it d : Addr) (hne : d ≠ it) (od : Obj) (es : Array DictEntry) (ep : Nat) (hdd : od.data = .dict es ep) :
    Draws prog w A it [it, d] es.size (fun i v => ∃ en, es[i]? = some en ∧ en.key = v) (fun i h => h.IsKeyIter it d i es.size ep ∧ h.get? d = some od) where
  live := fun _ _ st => let ⟨o, ho, _⟩ := st.1; ⟨o, ho⟩
  frame := fun _ _ _ st hk => ⟨st.1.at fun o e => hk it (by simp) o e, hk d (by simp) _ st.2⟩
  item := fun i s Q E hi st hQ => by
    refine nextOf_key_item (en := es[i]) st.1 st.2 hdd rfl (by simp [hi]) fun h' hit' hs' => ?_
    exact hQ _ h' s.toks ⟨es[i], by simp [hi], rfl⟩ ⟨hit', hs'.extBut _ _ hne st.2⟩ hs'
  done := fun s Q E st hE => nextOf_key_end hh st.1 st.2 hdd rfl (Nat.le_refl _) hE
theorem begins_keys (d : Addr) (od : Obj) (es : Array DictEntry) (ep : Nat) (hs : (d == sysModules) = false) (hx : od.ExactDict) (hdd : od.data = .dict es ep) :
    Begins (.ref d) { cls := .type "dict_keyiterator", data := .fields #[.ref d, .int 0 0, .int es.size 0, .int ep 0] } fun h => h.get? d = some od where
  iter := fun prog w A E s Q hd h => iter_keys hs hd hx hdd h
  keeps := fun h h' x hk => hk _ _ x
  free := rfl
end
/-! ### a zip of two drawn sources as the argument of dict() -/
theorem pairArg_zipD {prog : Program} {w : World} (z TI TO i1 i2 : Addr) (fp1 fp2 : List Addr) (S : ZipSep2 z TI TO i1 i2 fp1 fp2) (o1 o2 : Obj) (H1 H2 : Heap → Prop) (n1 n2 : Nat) (P1 P2 : Nat → Value → Prop)
    (k1 : ∀ h h', H1 h → (∀ b o', h.get? b = some o' → h'.get? b = some o') → H1 h') (k2 : ∀ h h', H2 h → (∀ b o', h.get? b = some o' → h'.get? b = some o') → H2 h')
    (t1 : ∀ h, H1 h → h.get? i1 = some o1 → ∀ b ∈ fp1, ∃ o, h.get? b = some o) (t2 : ∀ h, H2 h → h.get? i2 = some o2 → ∀ b ∈ fp2, ∃ o, h.get? b = some o)
    (D1 : ∀ A : Around, A.handled = none → ∃ St, Draws prog w A i1 fp1 n1 P1 St ∧ ∀ h, h.get? i1 = some o1 → H1 h → St 0 h) (D2 : ∀ A : Around, A.handled = none → ∃ St, Draws prog w A i2 fp2 n2 P2 St ∧ ∀ h, h.get? i2 = some o2 → H2 h → St 0 h) :
    PairArg prog w "zip" z ([z, TI, TO] ++ (fp1 ++ fp2)) [z, TO, i1, i2] (min n1 n2) (fun i k v => P1 i k ∧ P2 i v)
      (fun h => IsZip h z TI TO .none ∧ IsTupOf2 h TI (.ref i1) (.ref i2) ∧ IsTupOf2 h TO .none .none ∧ h.get? i1 = some o1 ∧ h.get? i2 = some o2 ∧ H1 h ∧ H2 h) where
  type := fun s ok => ⟨_, ok.1, rfl⟩
  notDict := by decide
  keep := fun h h' ok hk => by
    obtain ⟨hz, hTI, hTO, g1, g2, h1, h2⟩ := ok
    exact ⟨hk _ _ hz, hk _ _ hTI, hk _ _ hTO, hk _ _ g1, hk _ _ g2, k1 _ _ h1 hk, k2 _ _ h2 hk⟩
  there := fun h ok b hb => by
    obtain ⟨hz, hTI, hTO, g1, g2, h1, h2⟩ := ok
    simp only [List.mem_append, List.mem_cons, List.not_mem_nil, or_false] at hb
    rcases hb with (rfl | rfl | rfl) | (hb | hb)
    · exact ⟨_, hz⟩
    · exact ⟨_, hTI⟩
    · exact ⟨_, hTO⟩
    · exact t1 h h1 g1 b hb
    · exact t2 h h2 g2 b hb
  sub := fun b hb => by
    have m1 := S.mem1
    have m2 := S.mem2
    simp only [List.mem_cons, List.not_mem_nil, or_false] at hb
    rcases hb with rfl | rfl | rfl | rfl
    · simp
    · simp
    · simp [m1]
    · simp [m2]
  noKeys := fun A s Q E hA ok h => getAttrOr_miss_zip ok.1 rfl rfl rfl zip_no_keys (by decide +kernel) hA h
  iter := fun A s d Q E hA ok hd hdf h => by
    obtain ⟨hz, hTI, hTO, g1, g2, h1, h2⟩ := ok
    obtain ⟨St1, d1, i1'⟩ := D1 A.in1 hA
    obtain ⟨St2, d2, i2'⟩ := D2 A.in1 hA
    have df1 : ∀ b ∈ fp1, b ≠ d := fun b hb e => hdf (by rw [← e]; simp [hb])
    have df2 : ∀ b ∈ fp2, b ≠ d := fun b hb e => hdf (by rw [← e]; simp [hb])
    simp only [List.mem_append, List.mem_cons, List.not_mem_nil, or_false, not_or] at hdf
    obtain ⟨⟨dz, dTI, dTO⟩, _⟩ := hdf
    have di1 := df1 _ S.mem1
    have di2 := df2 _ S.mem2
    refine wpAny_pyIter_zip hz (h z [z, TO, i1, i2] (fun i h => IsTupOf2 h TI (.ref i1) (.ref i2) ∧ St1 i h ∧ St2 i h ∧
      ((IsZip h z TI TO .none ∧ IsTupOf2 h TO .none .none) ∨ ∃ T f oT, ZB h z TI TO T f ∧ h.get? T = some oT ∧ T ≠ z ∧ T ≠ i1 ∧ T ≠ i2 ∧ T ≠ d)) s.heap s.toks ?_
      ⟨hTI, i1' _ g1 h1, i2' _ g2 h2, .inl ⟨hz, hTO⟩⟩ (fun _ _ e => e) fun b hb => .inl hb)
    exact {
      off := fun hm => by
        simp only [List.mem_cons, List.not_mem_nil, or_false] at hm
        rcases hm with e | e | e | e
        · exact dz e
        · exact dTO e
        · exact di1 e.symm
        · exact di2 e.symm
      frame := fun i h₁ h₂ st hk => by
        obtain ⟨hTI, st1, st2, hz⟩ := st
        refine ⟨hk _ _ (Ne.symm dTI) hTI, d1.frame _ _ _ st1 fun b hb o e => hk b o (df1 b hb) e, d2.frame _ _ _ st2 fun b hb o e => hk b o (df2 b hb) e, ?_⟩
        rcases hz with ⟨hz, hTO⟩ | ⟨T, f, oT, hz, hT, r1, r2, r3, r4⟩
        · exact .inl ⟨hk _ _ (Ne.symm dz) hz, hk _ _ (Ne.symm dTO) hTO⟩
        · exact .inr ⟨T, f, oT, hk _ _ (Ne.symm dz) hz, hk _ _ r4 hT, r1, r2, r3, r4⟩
      item := fun i s₁ Q₁ E₁ hi st hds hQ => by
        obtain ⟨hTI, st1, st2, hz⟩ := st
        have hi1 : i < n1 := Nat.lt_of_lt_of_le hi (Nat.min_le_left ..)
        have hi2 : i < n2 := Nat.lt_of_lt_of_le hi (Nat.min_le_right ..)
        have lt : ∀ {c o}, s₁.heap.get? c = some o → s₁.heap.objs.size ≠ c := fun e => Nat.ne_of_gt (Heap.lt_size e)
        have q1 : s₁.heap.objs.size ≠ i1 := let ⟨_, e⟩ := d1.live _ _ st1; lt e
        have q2 : s₁.heap.objs.size ≠ i2 := let ⟨_, e⟩ := d2.live _ _ st2; lt e
        rcases hz with ⟨hz, hTO⟩ | ⟨T, f, oT, hz, hT, r1, r2, r3, r4⟩
        · refine wpAny_pyNext_zipD2_item S d1 d2 hz hTI hTO st1 st2 hi1 hi2 fun x1 x2 h' tk y1 y2 b1 b2 e1 e2 b5 b6 b7 => ?_
          exact hQ s₁.heap.objs.size _ _ h' tk ⟨y1, y2⟩ (.inl ⟨_, b5, rfl, _, rfl⟩)
            ⟨b7 _ _ S.TIz S.TITO S.TIi1 S.TIi2 hTI, e1, e2, .inr ⟨s₁.heap.objs.size, false, _, b1, b5, lt hz, q1, q2, Nat.ne_of_gt hds⟩⟩
            fun c o hc e => b7 c o (fun x => hc (by simp [x])) (fun x => hc (by simp [x])) (fun x => hc (by simp [x])) (fun x => hc (by simp [x])) e
        · refine pyNext_zipB_item S d1 d2 hz hT r1 hTI st1 st2 hi1 hi2 fun x1 x2 h' tk y1 y2 b1 e1 e2 b5 b6 b7 => ?_
          exact hQ s₁.heap.objs.size _ _ h' tk ⟨y1, y2⟩ (.inl ⟨_, b5, rfl, _, rfl⟩)
            ⟨b7 _ _ S.TIz S.TIi1 S.TIi2 hTI, e1, e2, .inr ⟨T, true, oT, b1, b7 _ _ r1 r2 r3 hT, r1, r2, r3, r4⟩⟩
            fun c o hc e => b7 c o (fun x => hc (by simp [x])) (fun x => hc (by simp [x])) (fun x => hc (by simp [x])) e
      done := fun s₁ Q₁ E₁ st hQ => by
        obtain ⟨hTI, st1, st2, hz⟩ := st
        have hend : min n1 n2 = n1 ∨ min n1 n2 = n2 := by omega
        rcases hz with ⟨hz, hTO⟩ | ⟨T, f, oT, hz, hT, r1, r2, r3, r4⟩
        · exact wpAny_pyNext_zipD2_end S d1 d2 hz hTI hTO st1 st2 (Nat.min_le_left ..) (Nat.min_le_right ..) hend fun h' tk hk => hQ h' tk fun c o hc e => hk c o (fun x => hc (by simp [x])) (fun x => hc (by simp [x])) (fun x => hc (by simp [x])) (fun x => hc (by simp [x])) e
        · exact pyNext_zipB_end S d1 d2 hz hT hTI st1 st2 (Nat.min_le_left ..) (Nat.min_le_right ..) hend fun h' tk hk => hQ h' tk fun c o hc e => hk c o (fun x => hc (by simp [x])) (fun x => hc (by simp [x])) (fun x => hc (by simp [x])) e }
end AU
/-! dict(zip(x, y)) over the layer -/
namespace AU
open PySem PySem.Spec PyProof.Rows L2
inductive ZPr : List V → List V → List DEnt → Prop
  | nil1 (ys : List V) : ZPr [] ys []
  | nil2 (xs : List V) : ZPr xs [] []
  | cons {xs ys : List V} {prs : List DEnt} (k : NestedKey) (b : Addr) (v : V) : ZPr xs ys prs → ZPr (.ref b :: xs) (v :: ys) ((k, b, v) :: prs)
theorem zp_len : ∀ {xs ys : List V} {prs : List DEnt}, ZPr xs ys prs → prs.length = min xs.length ys.length
  | _, _, _, .nil1 ys => by simp
  | _, _, _, .nil2 xs => by simp
  | _, _, _, .cons k b v h => by
    have := zp_len h
    simp
    omega
theorem zp_q : ∀ {xs ys : List V} {prs : List DEnt} {us ws : List Value}, ZPr xs ys prs → Vals xs us → Vals ys ws →
    ∃ qs : List DEntV, Paired EntR prs qs ∧ ∀ (i : Nat) (key v : Value), us[i]? = some key → ws[i]? = some v → ∃ kk b, qs[i]? = some (kk, b, v) ∧ key = .ref b
  | _, _, _, _, _, .nil1 ys, r, r2 => by
    cases r
    exact ⟨[], .nil, fun i key v h => by simp at h⟩
  | _, _, _, _, _, .nil2 xs, r, r2 => by
    cases r2
    exact ⟨[], .nil, fun i key v _ h => by simp at h⟩
  | _, _, _, _, _, .cons k b v h, .cons r1 r, .cons r2 r' => by
    obtain ⟨qs, rq, hq⟩ := zp_q h r r'
    cases r1
    refine ⟨(k, b, _) :: qs, .cons ⟨rfl, rfl, r2⟩ rq, fun i key v e1 e2 => ?_⟩
    cases i with
    | zero =>
      simp at e1 e2
      subst e1 e2
      exact ⟨k, b, rfl, rfl⟩
    | succ i => exact hq i key v (by simpa using e1) (by simpa using e2)
/-- a list, a tuple, the keys of a held dict -/
def SqK (K : PySem.W.Frag) (H : Hp) (a : Addr) (xs : List V) : Prop := (SqT K H a xs ∨ SqL K H a xs) ∨ ∃ (o : Obj) (es : List DEnt), H a = some (.frz o (dxO a es)) ∧ xs = es.map fun x => V.ref x.2.1
section
variable {X : Cx} {pins : List (Addr × Obj)} {σ : L2.St}
def SrcY (X : Cx) (s : Shared) (a : Addr) (its : List Value) : Prop := ∃ (oI : Obj) (Hs : Heap → Prop), Begins (.ref a) oI Hs ∧ Hs s.heap ∧ a < s.heap.objs.size ∧ (∀ h, Hs h → ∃ o, h.get? a = some o) ∧
  ∃ P : Nat → Value → Prop, (∀ i v, P i v → its[i]? = some v) ∧ ∀ (A : Around) (it : Addr), A.handled = none → a ≠ it → ∃ St, Draws X.prog X.w A it [it, a] its.length P St ∧ ∀ h', h'.get? it = some oI → Hs h' → St 0 h'
theorem srcY_of {H : Hp} {s : Shared} {a : Addr} {xs : List V} (I : Inv X pins σ H s) (q : SqK X.K H a xs) : ∃ its, Vals xs its ∧ xs.length ≤ sizeLine ∧ SrcY X s a its := by
  rcases q with (q | q) | ⟨o, es, hd, rfl⟩
  · obtain ⟨its, rv, p, hz⟩ := I.tuple q
    have p' : s.heap.IsTuple a its.toArray := p
    obtain ⟨o, ho, _⟩ := id p
    exact ⟨its, rv, hz, _, _, begins_tuple a its.toArray, p', Heap.lt_size ho, (fun h e => let ⟨o, ho, _⟩ := e; ⟨o, ho⟩), (fun i v => its.toArray[i]? = some v), (fun i v h => by simpa using h), fun A it hh hne => ⟨(fun i h => h.IsTupleIter it a i ∧ h.IsTuple a its.toArray), by
      have D := Draws.tuple (prog := X.prog) (w := X.w) hh it a hne its.toArray
      rw [List.size_toArray] at D
      exact D, fun h' e hs => ⟨⟨_, e, rfl, rfl⟩, hs⟩⟩⟩
  · obtain ⟨its, rv, p, hz⟩ := I.list q
    exact ⟨its, rv, hz, _, _, begins_list a its.toArray, p.isList, p.lt, (fun h e => let ⟨o, ho, _⟩ := e; ⟨o, ho⟩), (fun i v => its.toArray[i]? = some v), (fun i v h => by simpa using h), fun A it hh hne => ⟨(fun i h => h.IsListIter it a i ∧ h.IsList a its.toArray), by
      have D := Draws.list (prog := X.prog) (w := X.w) hh it a hne its.toArray
      rw [List.size_toArray] at D
      exact D, fun h' e hs => ⟨⟨_, e, rfl, rfl⟩, hs⟩⟩⟩
  · obtain ⟨hs, hgd, hx, ar, ep, hdt, hsz, ent⟩ := frzX I hd
    have hk := keys_vals (xs := es) hsz ent
    have e1 : (es.map fun x => V.ref x.2.1) = (es.map fun x => x.2.1).map V.ref := by rw [List.map_map]; rfl
    have e2 : (es.map fun x => Value.ref x.2.1) = (es.map fun x => x.2.1).map Value.ref := by rw [List.map_map]; rfl
    have rv : Vals (es.map fun x => V.ref x.2.1) (ar.toList.map (·.key)) := by
      rw [hk, e1, e2]
      exact refsV _
    have hz : es.length ≤ sizeLine := by
      obtain ⟨_, ⟨z, _⟩, _⟩ := I.hok a _ hd
      exact z
    refine ⟨_, rv, by rw [List.length_map]; exact hz, _, _, begins_keys a o ar ep hs hx hdt, hgd, Heap.lt_size hgd, fun h e => ⟨o, e⟩, (fun i v => ∃ en, ar[i]? = some en ∧ en.key = v), fun i v h => ?_, fun A it hh hne => ⟨(fun i h => h.IsKeyIter it a i ar.size ep ∧ h.get? a = some o), ?_, fun h' e hs => ⟨⟨_, e, rfl, rfl⟩, hs⟩⟩⟩
    · obtain ⟨en, h1, h2⟩ := h
      rw [List.getElem?_map, Array.getElem?_toList, h1, ← h2]
      rfl
    · have D := Draws.keysX (prog := X.prog) (w := X.w) hh it a hne o ar ep hdt
      rw [List.length_map, Array.length_toList]
      exact D
def tDictZip (K : PySem.W.Frag) (ta : TA) : TE := fun σ H Q => ta σ H fun vs H1 => ∃ (a b : Addr) (xs ys : List V) (prs : List DEnt), vs = [.ref a, .ref b] ∧ SqK K H1 a xs ∧ SqK K H1 b ys ∧ ZPr xs ys prs ∧ KeysX K H1 prs ∧
  ∀ p o, H1 p = none → Q (.ref p) (upd H1 p (.frz o (dxO p (putAllX [] prs))))
theorem pe_dictZip {e e2 : Expr} {ta : TA} {p p2 pos pos2 : Pos} (hc : X.calm = true) (hu : X.A.units + 64 < cLine) (hg : Gl X "dict") (hm : X.mg "dict" = none) (hg2 : Gl X "zip") (hm2 : X.mg "zip" = none) (ha : PA X [e, e2] ta)
    (hs : starEach [e, e2] X.env = (false, eval e X.env) :: starEach [e2] X.env := by rfl) (hpl : (backTo pos2 (starEach [e2] X.env)).any (·.1) = false := by rfl)
    (na : starEach [Expr.Call (.Name "zip" p2) [e, e2] [] pos2] X.env = (false, eval (Expr.Call (.Name "zip" p2) [e, e2] [] pos2) X.env) :: starEach [] X.env := by rfl) :
    PE X (.Call (.Name "dict" p) [.Call (.Name "zip" p2) [e, e2] [] pos2] [] pos) (tDictZip X.K ta) := by
  refine ⟨fun pins s σ H Q I h => ?_⟩
  refine Call_ (ld_blt I hg hm PyProof.Rows.boot_dict (PyProof.Rows.callWith_type1 (args_cons ?_ na) na))
  have hh : X.A.handled = none := I.ok.hd hc
  refine Call_ (ld_blt I hg2 hm2 PyProof.Rows.boot_zip (PyProof.Rows.callWith_type1 (thn (ha.run pos2 pins s σ H _ I h) fun us s1 ⟨vs, H1, I1, r1, q1⟩ => ?_) hs hpl))
  obtain ⟨a, b, xs, ys, prs, ex, qx, qy, zp, hk, q1⟩ := q1
  subst ex
  cases r1 with
  | cons r rr =>
    cases rr with
    | cons r' rr =>
      cases rr
      cases r
      cases r'
      obtain ⟨its, rv, hz1, oI, Hs, B1, h1, la, there1, P1, p1, D1⟩ := srcY_of I1 qx
      obtain ⟨its2, rv2, hz2, oI2, Hs2, B2, h2, lb, there2, P2, p2, D2⟩ := srcY_of I1 qy
      refine zip_begins2 B1 B2 h1 h2 fun h' hz hTI hTO g1 g2 hsz hkp => args_nil ?_
      have hne1 : a ≠ s1.heap.objs.size := Nat.ne_of_lt la
      have hne2 : b ≠ s1.heap.objs.size + 1 := Nat.ne_of_lt (Nat.lt_succ_of_lt lb)
      have sep : ZipSep2 (s1.heap.objs.size + 4) (s1.heap.objs.size + 2) (s1.heap.objs.size + 3) s1.heap.objs.size (s1.heap.objs.size + 1) (s1.heap.objs.size :: [a]) ((s1.heap.objs.size + 1) :: [b]) :=
        zip_sep2 (fun c hc => by rw [List.mem_singleton.mp hc]; exact la) (fun c hc => by rw [List.mem_singleton.mp hc]; exact lb)
      have PA := pairArg_zipD (prog := X.prog) (w := X.w) _ _ _ _ _ _ _ sep oI oI2 Hs Hs2 its.length its2.length P1 P2 B1.keeps B2.keeps
        (fun h hs e c hc => by
          rcases List.mem_cons.mp hc with z | z
          · rw [z]; exact ⟨_, e⟩
          · rw [List.mem_singleton.mp z]; exact there1 h hs)
        (fun h hs e c hc => by
          rcases List.mem_cons.mp hc with z | z
          · rw [z]; exact ⟨_, e⟩
          · rw [List.mem_singleton.mp z]; exact there2 h hs)
        (fun A hA => D1 A _ hA hne1) (fun A hA => D2 A _ hA hne2)
      obtain ⟨qs, rq, hq⟩ := zp_q zp rv rv2
      have lx := rv.length
      have ly := rv2.length
      have lz := zp_len zp
      have lq := Paired.length rq
      refine call_dict_pairsH (s := { s1 with heap := h' }) (knd := nestedKind X.prog X.w) (ps := qs) PA hh (by show X.A.units + 1 + 1 + 8 < cLine; omega) ⟨hz, hTI, hTO, g1, g2, B1.keeps _ _ h1 hkp, B2.keeps _ _ h2 hkp⟩ ?_ ?_ (by omega) fun h'' tk dd hk' => ?_
      · exact ⟨by omega, fun i key v e => hq i key v (p1 i key e.1) (p2 i v e.2)⟩
      · intro h'' kp x hx
        obtain ⟨i, hi⟩ := List.getElem?_of_mem hx
        obtain ⟨y, hy, e1, e2, _⟩ := paired_at rq hi
        have q := keyX_is I1 (hk y (List.mem_of_getElem? hy))
        rw [e1, e2] at q
        refine ⟨NestedIs.at (fun c ob vs m e _ => ?_) _ _ q.1, q.2⟩
        have lt := Heap.lt_size e
        refine kp c ob ?_ ?_ (hkp c ob e)
        · show c ≠ h'.objs.size
          rw [hsz]
          exact Nat.ne_of_lt (Nat.lt_of_lt_of_le lt (Nat.le_add_right _ _))
        · simp only [List.mem_cons, List.not_mem_nil, or_false, not_or]
          exact ⟨Nat.ne_of_lt (Nat.lt_of_lt_of_le lt (Nat.le_add_right _ _)), Nat.ne_of_lt (Nat.lt_of_lt_of_le lt (Nat.le_add_right _ _)), Nat.ne_of_lt lt, Nat.ne_of_lt (Nat.lt_succ_of_lt lt)⟩
      · have hsz' : h'.objs.size = s1.heap.objs.size + 5 := hsz
        have keep : ∀ c o, s1.heap.get? c = some o → h''.get? c = some o := fun c o e => by
          have lt := Heap.lt_size e
          refine hk' c o ?_ (hkp c o e)
          simp only [List.mem_cons, List.not_mem_nil, or_false, not_or]
          exact ⟨Nat.ne_of_lt (Nat.lt_of_lt_of_le lt (Nat.le_add_right _ _)), Nat.ne_of_lt (Nat.lt_of_lt_of_le lt (Nat.le_add_right _ _)), Nat.ne_of_lt lt, Nat.ne_of_lt (Nat.lt_succ_of_lt lt)⟩
        have pl : ∀ x ∈ prs, nkPlain x.1 = true := fun x hx => nkV_plain _ (hk x hx).1
        have hle : s1.heap.objs.size ≤ h'.objs.size := by rw [hsz']; exact Nat.le_add_right _ _
        have dp : dxP h'.objs.size (putAllX [] prs) h'' := by
          refine dxP_of (P := X.prog) (w := X.w) ?_ (beq_eq_false_iff_ne.mpr (Ne.symm (Nat.ne_of_lt (Nat.lt_of_lt_of_le I1.big hle)))) (putAllX_plain _ _ (fun x hx => by cases hx) pl) (putAllX_rel _ _ rq .nil) dd
          have := putAllX_length prs []
          simp at *
          omega
        have I2 := I1.laid (t' := tk) (a := h'.objs.size) keep hle (dxO_ok dp)
        obtain ⟨od, I3⟩ := I2.lock upd_same True.intro
        rw [upd_upd] at I3
        exact ⟨.ref h'.objs.size, _, I3, rfl, q1 _ od (I1.hok.fresh hle)⟩
end
/-! ### as data -/
def seqK : DD → Option (List DD)
  | .lst xs => some xs
  | .tup xs => some xs
  | .dct ks _ => some ks
  | _ => none
@[simp] theorem seqK_lst (xs : List DD) : seqK (.lst xs) = some xs := rfl
@[simp] theorem seqK_tup (xs : List DD) : seqK (.tup xs) = some xs := rfl
@[simp] theorem seqK_dct (xs ys : List DD) : seqK (.dct xs ys) = some xs := rfl
def bDZ : List DD → M DD
  | [x, y] => match seqK x, seqK y with
    | some xs, some ys => (match pairsD (zipD xs ys) with
      | some l => ret (.dct (putAllD ([], []) l).1 (putAllD ([], []) l).2)
      | none => stk)
    | _, _ => stk
  | _ => stk
@[simp] theorem bDZ_2 (x y : DD) : bDZ [x, y] = (match seqK x, seqK y with
    | some xs, some ys => (match pairsD (zipD xs ys) with
      | some l => ret (.dct (putAllD ([], []) l).1 (putAllD ([], []) l).2)
      | none => stk)
    | _, _ => stk) := rfl
section
variable {B : Bs} {W : WX} {X : Cx} {e e2 : Expr} {pos : Pos} {fr : Env → M (List DD)} {env : Env} {S : Sr} {σ : L2.St} {F H : Hp} {sa : Option Addr}
theorem zp_of (K : PySem.W.Frag) {F : Hp} : ∀ {us ws : List V} {xs ys : List DD} {l : List (DD × DD)}, RpA K F us xs → RpA K F ws ys → pairsD (zipD xs ys) = some l →
    ∃ prs, ZPr us ws prs ∧ Paired (fun (p : DEnt) (q : DD × DD) => Rp K F (.ref p.2.1) q.1 ∧ Rp K F p.2.2 q.2 ∧ keyD q.1 = some p.1) prs l
  | _, _, _, _, _, .nil, r2, h => by
    cases r2 <;> (cases h; exact ⟨[], .nil1 _, .nil⟩)
  | _, _, _, _, _, .cons r1 r1', .nil, h => by
    cases h
    exact ⟨[], .nil2 _, .nil⟩
  | _, _, _, _, _, .cons (d := k) (ds := ks) r1 r1', .cons (d := v) (ds := vs) r2 r2', h => by
    have h' : (match keyD k, pairsD (zipD ks vs) with
      | some _, some r => some ((k, v) :: r)
      | _, _ => none) = some _ := h
    cases q : keyD k with
    | none => rw [q] at h'; cases h'
    | some nk =>
      cases q2 : pairsD (zipD ks vs) with
      | none => rw [q, q2] at h'; cases h'
      | some r =>
        rw [q, q2] at h'
        cases h'
        obtain ⟨prs, z1, z2⟩ := zp_of K r1' r2' q2
        obtain ⟨b, rfl, _⟩ := key_of (Same.refl F) r1 q
        exact ⟨(nk, b, _) :: prs, .cons nk b _ z1, .cons ⟨r1, r2, q⟩ z2⟩
theorem seqK_inv {K : PySem.W.Frag} {F : Hp} {v : V} {x : DD} {ds : List DD} (h : seqK x = some ds) (r : Rp K F v x) : ∃ a xs, v = .ref a ∧ SqK K F a xs ∧ RpA K F xs ds := by
  cases x with
  | lst xs =>
    cases h
    obtain ⟨a, ws, rfl, h1, h2⟩ := r.lst_inv
    exact ⟨a, ws, rfl, .inl (.inr (SqL.of h1)), h2⟩
  | tup xs =>
    cases h
    obtain ⟨a, ws, rfl, h1, h2⟩ := r.tup_inv
    exact ⟨a, ws, rfl, .inl (.inl h1), h2⟩
  | dct ks vs =>
    cases h
    cases r with
    | dct h1 h2 h3 h4 => exact ⟨_, _, rfl, .inr ⟨_, _, h1, rfl⟩, h2⟩
  | _ => cases h
theorem SqK.up {K : PySem.W.Frag} {F H : Hp} {a : Addr} {xs : List V} (e : Same F H) (q : SqK K F a xs) : SqK K H a xs := by
  rcases q with (q | q) | ⟨o, es, h1, h2⟩
  · exact .inl (.inl (sqT_same e q))
  · exact .inl (.inr (Same.seq e q))
  · exact .inr ⟨o, es, e _ _ h1, h2⟩
theorem de_dictZ {n : Nat} {p p2 pos2 : Pos} (hK : B.K = X.K) (hr : Room n X.A) (hc : X.calm = true) (hm : X.mg "dict" = none) (hm2 : X.mg "zip" = none) (ha : DA X B W [e, e2] fr) (hg : Gl X "dict" := by rfl) (hg2 : Gl X "zip" := by rfl)
    (hs : starEach [e, e2] X.env = (false, eval e X.env) :: starEach [e2] X.env := by rfl) (hpl : (backTo pos2 (starEach [e2] X.env)).any (·.1) = false := by rfl)
    (na : starEach [Expr.Call (.Name "zip" p2) [e, e2] [] pos2] X.env = (false, eval (Expr.Call (.Name "zip" p2) [e, e2] [] pos2) X.env) :: starEach [] X.env := by rfl) :
    DE X B W (.Call (.Name "dict" p) [.Call (.Name "zip" p2) [e, e2] [] pos2] [] pos) (eB bDZ fr) := by
  obtain ⟨t, pp, s⟩ := ha.ex
  refine ⟨_, pe_dictZip hc hr.units hg hm hg2 hm2 pp hs hpl na, fun env S σ F H sa k Q h => s env S σ F H sa k _ ((Post.bnd h).imp fun ds S1 h1 vs F1 H1 k1 g1 r1 => ?_)⟩
  unfold bDZ at h1
  split at h1
  · rename_i x y
    obtain ⟨v, w, rfl, r2, r3⟩ := rpa2 r1
    cases hx : seqK x with
    | none =>
      rw [hx] at h1
      exact h1.elim
    | some xs =>
    cases hy : seqK y with
    | none =>
      rw [hx, hy] at h1
      exact h1.elim
    | some ys =>
      rw [hx, hy] at h1
      cases hl : pairsD (zipD xs ys) with
      | none =>
        simp only [hl] at h1
        exact h1.elim
      | some l =>
        simp only [hl] at h1
        obtain ⟨a, us, rfl, q1, q2⟩ := seqK_inv hx r2
        obtain ⟨b, ws, rfl, q3, q4⟩ := seqK_inv hy r3
        obtain ⟨prs, z1, z2⟩ := zp_of B.K q2 q4 hl
        have mp : MpOk B.K F1 (putAllX [] prs) (putAllD ([], []) l).1 (putAllD ([], []) l).2 := putAll_of z2 .nil
        have hkx : KeysX B.K H1 prs := fun x hx => by
          obtain ⟨i, hi⟩ := List.getElem?_of_mem hx
          obtain ⟨q, hq, e1, e2, e3⟩ := paired_at' z2 hi
          obtain ⟨b, z, kx⟩ := key_of k1.fh e1 e3
          cases z
          exact kx
        refine ⟨a, b, us, ws, prs, rfl, hK ▸ q1.up k1.fh, hK ▸ q3.up k1.fh, z1, hK ▸ hkx, fun p o hp => ?_⟩
        exact h1 (.ref p) _ _ (k1.new hp (.frz o (dxO p (putAllX [] prs))) (fun ps z => by cases z)) (g1.trans (k1.gw hp _)) (.dct upd_same (RpA.same (k1.sF hp _) _ mp.k) (RpA.same (k1.sF hp _) _ mp.v) mp.e)
  · exact h1.elim
end
/-! ### is None, of a dict too -/
section
variable {B : Bs} {W : WX} {X : Cx} {a b : Expr} {pos : Pos} {fa fb : Env → M DD}
def opIs2 (x y : DD) : M DD := match x, y with
  | .dct _ _, .non => ret (.bl false)
  | _, _ => opIs x y
@[simp] theorem opIs2_dct (ks vs : List DD) : opIs2 (.dct ks vs) .non = ret (.bl false) := rfl
@[simp] theorem opIs2_tup (xs : List DD) : opIs2 (.tup xs) .non = ret (.bl false) := rfl
@[simp] theorem opIs2_non : opIs2 .non .non = ret (.bl true) := rfl
theorem snd_is2 : OpSnd B W (fun x y H Q => y = .non ∧ Q (.bl (decide (x = .non))) H) opIs2 := fun env S σ F H sa v w x y k rx ry Q h => by
  by_cases hx : ∃ ks vs, x = .dct ks vs
  · obtain ⟨ks, vs, rfl⟩ := hx
    cases y with
    | non =>
      cases rx
      exact ⟨ry.non_inv, h _ F H k Gw.refl (.bl _)⟩
    | _ => exact h.elim
  · have e : opIs2 x y = opIs x y := by
      cases x with
      | dct ks vs => exact absurd ⟨ks, vs, rfl⟩ hx
      | _ => rfl
    rw [e] at h
    exact snd_is env S σ F H sa v w x y k rx ry Q h
theorem de_is2N (ha : DE X B W a fa) (hb : DE X B W b fb) : DE X B W (.Compare a [.Is] [b] pos) (eOp opIs2 fa fb) := de_cmp op_isN snd_is2 ha hb (nomark _)
theorem dt_is2N (ha : DE X B W a fa) (hb : DE X B W b fb) : DT X B W (.Compare a [.Is] [b] pos) (tV (eOp opIs2 fa fb)) := dt_cmp op_isN snd_is2 ha hb (nomark _)
end
end AU
/-! set(t), x in set, tuple < tuple, t[::-1] -/
namespace AU
open PySem PySem.Spec PyProof.Rows L2 PySem.Calls

/-! ### set(t) -/
def keyOk (d : DD) : Bool := match keyD d with
  | some k => SA.flatK k && nkPlain k
  | none => false
def setOk (xs : List DD) : Bool := decide (xs.length < 300) && xs.all keyOk
def bSet : List DD → M DD
  | [.tup xs] => if setOk xs = true then ret (.set xs) else stk
  | _ => stk
@[simp] theorem bSet_1 (xs : List DD) : bSet [.tup xs] = if setOk xs = true then ret (.set xs) else stk := rfl
theorem keyOk_of {d : DD} (h : keyOk d = true) : ∃ k, keyD d = some k ∧ SA.flatK k = true ∧ nkPlain k = true := by
  unfold keyOk at h
  cases q : keyD d with
  | none => rw [q] at h; cases h
  | some k =>
    rw [q] at h
    simp only [Bool.and_eq_true] at h
    exact ⟨k, rfl, h.1, h.2⟩
theorem ents_of {K : PySem.W.Frag} {F : Hp} : ∀ {ws : List V} {ds : List DD}, RpA K F ws ds → ds.all keyOk = true →
    ∃ ys : List SA.NEnt, ws = ys.map (fun y => V.ref y.1) ∧ ys.map (fun y => some y.2) = ds.map keyD ∧ ∀ y ∈ ys, SA.NE K F y
  | _, _, .nil, _ => ⟨[], rfl, rfl, fun y hy => by cases hy⟩
  | _, _, .cons r1 r2, h => by
    rw [List.all_cons, Bool.and_eq_true] at h
    obtain ⟨k, e, f, p⟩ := keyOk_of h.1
    obtain ⟨b, rfl, x1, x2⟩ := key_of (Same.refl F) r1 e
    obtain ⟨ys, rfl, e2, n⟩ := ents_of r2 h.2
    refine ⟨(b, k) :: ys, rfl, ?_, fun y hy => ?_⟩
    · rw [List.map_cons, List.map_cons, e, e2]
    · rcases List.mem_cons.mp hy with rfl | hy
      · exact ⟨x1, x2, f, p⟩
      · exact n y hy
theorem NE.same {K : PySem.W.Frag} {F F' : Hp} (e : Same F F') {p : SA.NEnt} (h : SA.NE K F p) : SA.NE K F' p := ⟨NkV.same e p.2 h.nk, h.dp, h.fl, h.pl⟩
section
variable {B : Bs} {W : WX} {X : Cx} {e a b : Expr} {fr : Env → M (List DD)} {fa fb : Env → M DD} {pos : Pos}
theorem snd_set : CSnd B W (SA.rSet B.K) bSet := fun env S σ F H sa vs ds k r Q h => by
  unfold bSet at h
  split at h
  · rename_i xs
    obtain ⟨ok, h⟩ := post_if h
    obtain ⟨o1, o2⟩ := Bool.and_eq_true_iff.mp (show (decide (xs.length < 300) && xs.all keyOk) = true from ok)
    obtain ⟨v, rfl, r1⟩ := rpa1 r
    obtain ⟨l, ws, rfl, h1, h2⟩ := r1.tup_inv
    obtain ⟨ys, rfl, ek, ne⟩ := ents_of h2 o2
    refine ⟨l, ys, rfl, sqT_same k.fh h1, fun y hy => NE.same k.fh (ne y hy), ?_, fun p L o hp sub all => ?_⟩
    · have := h2.length
      rw [List.length_map] at this
      rw [this]
      exact of_decide_eq_true o1
    · have nt : ∀ ps, HO.frz o (SA.stO p L) ≠ .tbl ps := by intro ps z; cases z
      refine h _ _ _ (k.new hp _ nt) (k.gw hp _) ?_
      refine .set (o := o) (L := L) upd_same (fun q hq => NE.same (k.sF hp _) (ne q (sub q hq))) fun kk => ?_
      rw [← ek, List.mem_map, List.mem_map]
      constructor
      · rintro ⟨q, hq, rfl⟩
        exact ⟨q, sub q hq, rfl⟩
      · rintro ⟨q, hq, e⟩
        cases e
        exact List.mem_map.mp (all q hq)
  · exact h.elim
theorem de_set {n : Nat} (hK : B.K = X.K) (hc : X.calm = true) (hr : Room n X.A) {p : Pos} (hm : X.mg "set" = none) (ha : DA X B W [e] fr) (hg : Gl X "set" := by rfl)
    (he : starEach [e] X.env = (false, eval e X.env) :: starEach [] X.env := by rfl) (hpl : (backTo pos (starEach [] X.env)).any (·.1) = false := by rfl) : DE X B W (.Call (.Name "set" p) [e] [] pos) (eB bSet fr) :=
  de_ct (SA.call_setT hc hr.units) (hK ▸ snd_set) hm ha hg (by decide +kernel) (by decide) (by decide) he hpl

/-! ### x in set -/
def opInS (c : Bool) (x y : DD) : M DD := match y with
  | .set ks => match keyD x with
    | some k => if (SA.flatK k && nkPlain k) = true then ret (.bl (c != decide (some k ∈ ks.map keyD))) else stk
    | none => stk
  | _ => stk
theorem snd_inS {c : Bool} : OpSnd B W (SA.rInS B.K c) (opInS c) := by
  intro env S σ F H sa v w x y k rx ry Q h
  cases y with
  | set ks =>
    obtain ⟨a, o, L, rfl, h1, h2, h3⟩ := ry.set_inv
    have h : Post (Good B env σ F H sa Q) (Bad B W env σ F H sa) ((match keyD x with
      | some k => if (SA.flatK k && nkPlain k) = true then ret (.bl (c != decide (some k ∈ ks.map keyD))) else stk
      | none => stk : M DD) S) := h
    cases q : keyD x with
    | none => rw [q] at h; exact h.elim
    | some kk =>
      rw [q] at h
      simp only at h
      obtain ⟨ok, h⟩ := post_if h
      obtain ⟨o1, o2⟩ := Bool.and_eq_true_iff.mp ok
      obtain ⟨b, rfl, x1, x2⟩ := key_of k.fh rx q
      refine ⟨(b, kk), a, L, o, rfl, rfl, ⟨x1, x2, o1, o2⟩, k.fh _ _ h1, fun p hp => NE.same k.fh (h2 p hp), ?_⟩
      have e : decide (kk ∈ L.map (·.2)) = decide (some kk ∈ ks.map keyD) := decide_eq_decide.mpr (h3 kk)
      rw [e]
      exact h _ F H k Gw.refl (.bl _)
  | _ => exact h.elim
theorem de_inS {n : Nat} (hK : B.K = X.K) (hr : Room n X.A) (ha : DE X B W a fa) (hb : DE X B W b fb) (hm : behindInMarks .In b = false := by rfl) : DE X B W (.Compare a [.In] [b] pos) (eOp (opInS false) fa fb) := de_cmp (SA.op_inS hr.units) (hK ▸ snd_inS) ha hb hm
theorem de_notinS {n : Nat} (hK : B.K = X.K) (hr : Room n X.A) (ha : DE X B W a fa) (hb : DE X B W b fb) (hm : behindInMarks .NotIn b = false := by rfl) : DE X B W (.Compare a [.NotIn] [b] pos) (eOp (opInS true) fa fb) := de_cmp (SA.op_notinS hr.units) (hK ▸ snd_inS) ha hb hm
theorem dt_inS {n : Nat} (hK : B.K = X.K) (hr : Room n X.A) (ha : DE X B W a fa) (hb : DE X B W b fb) (hm : behindInMarks .In b = false := by rfl) : DT X B W (.Compare a [.In] [b] pos) (tV (eOp (opInS false) fa fb)) := dt_cmp (SA.op_inS hr.units) (hK ▸ snd_inS) ha hb hm
theorem dt_notinS {n : Nat} (hK : B.K = X.K) (hr : Room n X.A) (ha : DE X B W a fa) (hb : DE X B W b fb) (hm : behindInMarks .NotIn b = false := by rfl) : DT X B W (.Compare a [.NotIn] [b] pos) (tV (eOp (opInS true) fa fb)) := dt_cmp (SA.op_notinS hr.units) (hK ▸ snd_inS) ha hb hm

/-! ### tuple < tuple -/
theorem lexAt_lexL : ∀ (k i : Nat) (ns ms : List Int), ns.length = i + k → ms.length = i + k →
    Ob.lexAt (fun j => decide (ns.getD j 0 = ms.getD j 0)) (fun j => decide (ns.getD j 0 < ms.getD j 0)) false i k = lexL (ns.drop i) (ms.drop i)
  | 0, i, ns, ms, h1, h2 => by
    rw [Ob.lexAt_zero, List.drop_eq_nil_of_le (by omega), List.drop_eq_nil_of_le (by omega)]
    rfl
  | k + 1, i, ns, ms, h1, h2 => by
    have l1 : i < ns.length := by omega
    have l2 : i < ms.length := by omega
    rw [Ob.lexAt_succ, lexAt_lexL k (i + 1) ns ms (by omega) (by omega), List.drop_eq_getElem_cons l1, List.drop_eq_getElem_cons l2]
    rw [show ns.getD i 0 = ns[i] by simp [l1], show ms.getD i 0 = ms[i] by simp [l2]]
    show _ = if ns[i] = ms[i] then lexL (ns.drop (i + 1)) (ms.drop (i + 1)) else decide (ns[i] < ms[i])
    by_cases e : ns[i] = ms[i]
    · rw [if_pos e, decide_eq_true e, if_pos rfl]
    · rw [if_neg e, decide_eq_false e, if_neg Bool.false_ne_true]
def rLtT (K : PySem.W.Frag) : R2 := fun x y H Q => ∃ (a b : Addr) (xs ys : List V) (sg : List Bool) (ns ms : List Int), x = .ref a ∧ y = .ref b ∧ SqT K H a xs ∧ SqT K H b ys ∧ FlatV sg ns xs ∧ FlatV sg ms ys ∧ Q (.bl (lexL ns ms)) H
theorem flat_at : ∀ {sg : List Bool} {ns ms : List Int} {vs us : List Value}, FlatIs sg ns vs → FlatIs sg ms us → ∀ (j : Nat) (v u : Value), vs[j]? = some v → us[j]? = some u →
    (∃ t t', v = .int (ns.getD j 0) t ∧ u = .int (ms.getD j 0) t') ∨ ∃ c c' : Bool, v = .bool c ∧ u = .bool c' ∧ ns.getD j 0 = (if c = true then 1 else 0) ∧ ms.getD j 0 = (if c' = true then 1 else 0)
  | _, _, _, _, _, .nil, h, j, v, u, e, _ => by simp at e
  | _, _, _, _, _, .int i t a, .int i' t' b, 0, v, u, e, e' => by
    simp at e e'
    subst e e'
    exact .inl ⟨t, t', rfl, rfl⟩
  | _, _, _, _, _, .bool c a, .bool c' b, 0, v, u, e, e' => by
    simp at e e'
    subst e e'
    exact .inr ⟨c, c', rfl, rfl, rfl, rfl⟩
  | _, _, _, _, _, .int i t a, .int i' t' b, j + 1, v, u, e, e' => by
    have := flat_at a b j v u (by simpa using e) (by simpa using e')
    simpa using this
  | _, _, _, _, _, .bool c a, .bool c' b, j + 1, v, u, e, e' => by
    have := flat_at a b j v u (by simpa using e) (by simpa using e')
    simpa using this
theorem op_ltT (hu : X.A.units < cLine) : OpR X (compareOp .Lt) (rLtT X.K) := by
  intro pins s σ H x y v u Q I rx ry h
  obtain ⟨a, b, xs, ys, sg, ns, ms, rfl, rfl, ha, hb, f1, f2, q⟩ := h
  cases rx
  cases ry
  obtain ⟨its, r1, p1, _⟩ := I.tuple ha
  obtain ⟨its2, r2, p2, _⟩ := I.tuple hb
  have i1 : FlatIs sg ns its := f1.is r1
  have i2 : FlatIs sg ms its2 := f2.is r2
  have e1 : its.toArray.size = ns.length := by rw [List.size_toArray, i1.len.1, i1.len.2]
  have e2 : its2.toArray.size = ms.length := by rw [List.size_toArray, i2.len.1, i2.len.2]
  have e3 : ns.length = ms.length := by rw [i1.len.2, i2.len.2]
  have R := Ob.RcOp.tuples_lt (A := X.A) (s := s) (e := fun j => decide (ns.getD j 0 = ms.getD j 0)) (r := fun j => decide (ns.getD j 0 < ms.getD j 0)) p1 p2 hu (fun j h1 h2 => by
    rcases flat_at i1 i2 j its.toArray[j] its2.toArray[j] (by simp) (by simp) with ⟨t, t', et, et'⟩ | ⟨c, c', et, et', z1, z2⟩
    · rw [et, et']
      have z : (ns.getD j 0 == ms.getD j 0) = decide (ns.getD j 0 = ms.getD j 0) := by
        by_cases q : ns.getD j 0 = ms.getD j 0
        · rw [decide_eq_true q]; exact beq_iff_eq.mpr q
        · rw [decide_eq_false q]; exact beq_eq_false_iff_ne.mpr q
      rw [← z]
      exact SeqAt.EqAt.int_int _ _ _ _
    · rw [et, et', z1, z2]
      have z : (c == c') = decide ((if c = true then (1 : Int) else 0) = (if c' = true then 1 else 0)) := by cases c <;> cases c' <;> rfl
      rw [← z]
      exact SeqAt.EqAt.bool_bool _ _) (fun j h1 h2 _ => by
    rcases flat_at i1 i2 j its.toArray[j] its2.toArray[j] (by simp) (by simp) with ⟨t, t', et, et'⟩ | ⟨c, c', et, et', z1, z2⟩
    · rw [et, et']
      exact Ob.RcOp.lt_int _ _ _ _
    · rw [et, et', z1, z2]
      have z : decide (PyProof.Rows.b2i c < PyProof.Rows.b2i c') = decide ((if c = true then (1 : Int) else 0) < (if c' = true then 1 else 0)) := by cases c <;> cases c' <;> rfl
      rw [← z]
      exact fun _ _ _ _ h => PyProof.Rows.lt_bool h)
  rw [e1, e2, e3, decide_eq_false (Nat.lt_irrefl _), Nat.min_self, lexAt_lexL _ 0 ns ms (by omega) (by omega)] at R
  have z : wpAny (model X.prog X.w) X.A (compareOp .Lt (.ref a) (.ref b)) (EP X pins σ Q) X.xe s := R X.prog X.w X.xe (EP X pins σ Q) ⟨.bl _, H, I, rfl, q⟩
  exact z
def opLtT : DD → DD → M DD
  | .tup xs, .tup ys => if (flatAll (sgD (.tup xs)) xs && flatAll (sgD (.tup xs)) ys) = true then ret (.bl (lexL (xs.map intOf) (ys.map intOf))) else stk
  | _, _ => stk
@[simp] theorem opLtT_2 (xs ys : List DD) : opLtT (.tup xs) (.tup ys) = if (flatAll (sgD (.tup xs)) xs && flatAll (sgD (.tup xs)) ys) = true then ret (.bl (lexL (xs.map intOf) (ys.map intOf))) else stk := rfl
theorem snd_ltT : OpSnd B W (rLtT B.K) opLtT := fun env S σ F H sa v w x y k rx ry Q h => by
  unfold opLtT at h
  split at h
  · rename_i xs ys
    obtain ⟨ok, h⟩ := post_if h
    obtain ⟨o1, o2⟩ := Bool.and_eq_true_iff.mp ok
    obtain ⟨a, vs, rfl, h1, h2⟩ := rx.tup_inv
    obtain ⟨b, us, rfl, h3, h4⟩ := ry.tup_inv
    exact ⟨a, b, vs, us, _, _, _, rfl, rfl, sqT_same k.fh h1, sqT_same k.fh h3, flatV_of o1 h2, flatV_of o2 h4, h _ F H k Gw.refl (.bl _)⟩
  · exact h.elim
theorem de_ltT {n : Nat} (hK : B.K = X.K) (hr : Room n X.A) (ha : DE X B W a fa) (hb : DE X B W b fb) : DE X B W (.Compare a [.Lt] [b] pos) (eOp opLtT fa fb) := de_cmp (op_ltT (by have := hr.units; omega)) (hK ▸ snd_ltT) ha hb (nomark _)
end

/-! ### t[::-1] -/
section
variable {prog : Program} {w : World} {A : Around} {E : Value → Shared → Prop} {s : Shared}
theorem filterMap_cg {α β : Type} {f g : α → Option β} : ∀ {l : List α}, (∀ m ∈ l, f m = g m) → l.filterMap f = l.filterMap g
  | [], _ => rfl
  | x :: l, h => by
    have ih := filterMap_cg (l := l) fun m hm => h m (by simp [hm])
    rw [List.filterMap_cons, List.filterMap_cons, h x (by simp), ih]
theorem range_rev {α : Type} (xs : List α) : (List.range xs.length).filterMap (fun (m : Nat) => xs[(((xs.length : Nat) : Int) - 1 + (m : Int) * (-1)).toNat]?) = xs.reverse := by
  have e : ∀ m ∈ List.range xs.length, xs[(((xs.length : Nat) : Int) - 1 + (m : Int) * (-1)).toNat]? = xs.reverse[m]? := fun m hm => by
    have hm := List.mem_range.mp hm
    rw [List.getElem?_reverse hm]
    congr 1
    omega
  rw [filterMap_cg e]
  have h2 : ∀ ys : List α, (List.range ys.length).filterMap (fun m => ys[m]?) = ys := fun ys => by
    apply List.ext_getElem?
    intro i
    have : (List.range ys.length).filterMap (fun m => ys[m]?) = (List.range ys.length).pmap (fun m (h : m < ys.length) => ys[m]) (fun m hm => List.mem_range.mp hm) := by
      have : ∀ (l : List Nat) (hl : ∀ m ∈ l, m < ys.length), l.filterMap (fun m => ys[m]?) = l.pmap (fun m (h : m < ys.length) => ys[m]) hl := fun l => by
        induction l with
        | nil => intro _; rfl
        | cons x l ih =>
          intro hl
          rw [List.filterMap_cons_some (List.getElem?_eq_getElem (hl x (by simp))), List.pmap_cons, ih fun m hm => hl m (by simp [hm])]
      exact this _ _
    rw [this]
    by_cases hi : i < ys.length
    · simp [hi]
    · simp [hi]
  have := h2 xs.reverse
  rw [List.length_reverse] at this
  exact this
theorem appliedR {sl : Addr} {n : Nat} {vl vu : Value} {t' : Tok} {Q : Int × Int × Nat → Shared → Prop} (hs : s.heap.IsSliceOf sl vl vu (.int (-1) t')) (pl : IsPart vl none) (pu : IsPart vu none)
    (h : Q (((n : Nat) : Int) - 1, -1, n) s) : wpAny (model prog w) A (Builtin.Slice.sliceApplied (.ref sl) (pure (n : Int))) Q E s := by
  obtain ⟨os, hos, hcs, hds⟩ := id hs
  unfold Builtin.Slice.sliceApplied Builtin.Slice.sliceFields
  refine wpAny_bind (wpAny_bind (wpAny_field hos hds (x := vl) rfl (wpAny_bind (wpAny_field hos hds (x := vu) rfl (wpAny_bind (wpAny_field hos hds (x := .int (-1) t') rfl (wpAny_pure ?_)))))))
  refine wpAny_bind (HT.slicePart_ (.int (-1) t') ?_)
  show wpAny _ _ (if ((-1 : Int) == 0) = true then _ else _) _ _ s
  rw [if_neg (by decide)]
  refine wpAny_bind (HT.slicePart_ pl (wpAny_bind (HT.slicePart_ pu (wpAny_bind (wpAny_pure ?_)))))
  have e : Builtin.Slice.sliceAdjust none none (-1) (n : Int) = (((n : Nat) : Int) - 1, -1) := by
    unfold Builtin.Slice.sliceAdjust
    have h1 : ((-1 : Int) < 0) := by decide
    simp only [h1, if_true]
  have e2 : Builtin.Slice.slicePlaces (((n : Nat) : Int) - 1) (-1) (-1) = n := by
    unfold Builtin.Slice.slicePlaces
    have h1 : ¬ ((-1 : Int) > 0) := by decide
    simp only [h1, if_false]
    by_cases c : ((n : Nat) : Int) - 1 > -1
    · rw [if_pos c]
      simp
    · rw [if_neg c]
      have : n = 0 := by omega
      rw [this]
      rfl
  show wpAny _ _ (match Builtin.Slice.sliceAdjust none none (-1) (n : Int) with | (lo, hi) => pure (lo, (-1 : Int), Builtin.Slice.slicePlaces lo hi (-1))) _ _ s
  rw [e]
  show wpAny _ _ (pure (((n : Nat) : Int) - 1, (-1 : Int), Builtin.Slice.slicePlaces (((n : Nat) : Int) - 1) (-1) (-1))) _ _ s
  rw [e2]
  exact wpAny_pure h
theorem tup_cutR {t sl : Addr} {items : Array Value} {vl vu : Value} {tk' : Tok} {Q : Value → Shared → Prop} (ht : IsTup s.heap t items) (hs : s.heap.IsSliceOf sl vl vu (.int (-1) tk')) (pl : IsPart vl none) (pu : IsPart vu none)
    (h : Q (.ref s.heap.objs.size) { s with heap := s.heap.push { cls := .type "tuple", data := .seq items.toList.reverse.toArray } }) (hsz : items.size ≤ sizeLine) : wpAny (model prog w) A (getItem (.ref t) (.ref sl)) Q E s := by
  have htake : sizeOk (.seq items.toList.reverse.toArray) := by
    show items.toList.reverse.toArray.size ≤ sizeLine
    rw [List.size_toArray, List.length_reverse, Array.length_toList]
    exact hsz
  obtain ⟨os, hos, hcs, hds⟩ := id hs
  have hTs : s.TypeIs (.ref sl) "slice" := ⟨os, hos, hcs⟩
  unfold getItem
  try with_reducible refine wpAny_holding ?_
  first | refine wpAny_bind (wpAny_pure ?_) | skip
  refine wpAny_bind (wpAny_sequenceKey ht.typeIs (by decide) ?_)
  refine wpAny_bind (wpAny_callSpecial?_slot (name := Str.ofString "__getitem__") ht.typeIs PyProof.Rows.slot_tuple_getitem (wpAny_call_entry PyProof.Rows.slot_tuple_getitem ht.typeIs entry_tuple_getitem ?_ (args_tuple_getitem _ _)))
  show wpAny _ _ (Builtin.Tuple.tupleItemsOf (.ref t) >>= _) _ _ s
  refine wpAny_bind (tupleItemsOf_ ht ?_)
  refine wpAny_bind (wpAny_typeOf hTs ?_)
  rw [if_pos (by decide)]
  refine wpAny_bind (appliedR hs pl pu ?_)
  have hno : ¬ (((((items.size : Nat) : Int) - 1) == 0 && (-1 : Int) == 1 && items.size == items.size) = true) := by
    intro q
    rw [Bool.and_eq_true, Bool.and_eq_true] at q
    exact absurd q.1.2 (by decide)
  show wpAny _ _ (if ((((items.size : Nat) : Int) - 1) == 0 && (-1 : Int) == 1 && items.size == items.size) = true then _ else _) _ _ s
  have epick : ((List.range items.size).filterMap fun (m : Nat) => items[((((items.size : Nat) : Int) - 1) + (m : Int) * (-1)).toNat]?).toArray = items.toList.reverse.toArray := by
    have := range_rev items.toList
    rw [Array.length_toList] at this
    rw [← this]
    have ef : (fun (m : Nat) => items[((((items.size : Nat) : Int) - 1) + (m : Int) * (-1)).toNat]?) = (fun (m : Nat) => items.toList[((((items.size : Nat) : Int) - 1) + (m : Int) * (-1)).toNat]?) := by
      funext m
      simp
    rw [ef]
  rw [if_neg hno, epick]
  first
    | exact wpAny_bind (m := Builtin.Tuple.tupleExact _) (wpAny_newObj_type (wpAny_pure ⟨_, rfl, wpAny_pure h⟩) htake)
    | exact wpAny_bind (m := Builtin.Tuple.tupleExact _) (wpAny_newObj_type (wpAny_bind (wpAny_pure (wpAny_pure ⟨_, rfl, wpAny_pure h⟩))) htake)
    | exact wpAny_bind (wpAny_bind (m := Builtin.Tuple.tupleExact _) (wpAny_newObj_type (wpAny_pure (wpAny_pure ⟨_, rfl, wpAny_pure h⟩)) htake))
    | exact wpAny_bind (wpAny_bind (m := Builtin.Tuple.tupleExact _) (wpAny_newObj_type (wpAny_pure ⟨_, rfl, wpAny_pure h⟩) htake))
end
def tRevT (K : PySem.W.Frag) (te : TE) : TE := fun σ H Q => te σ H fun x H1 => ∃ a xs, x = .ref a ∧ SqT K H1 a xs ∧ ∀ p, H1 p = none → Q (.ref p) (upd H1 p (.tup xs.reverse))
section
variable {X : Cx} {B : Bs} {W : WX} {e : Expr} {te : TE} {fa : Env → M DD} {p1 p2 p3 pos : Pos} {k : Nat}
theorem pe_revT (he : PE X e te) : PE X (.Subscript e (.Slice none none (some (.UnaryOp .USub (.Constant (.int 1) k p1) p2)) p3) pos) (tRevT X.K te) := by
  refine ⟨fun pins s σ H Q I h => ?_⟩
  refine Subscript_ (thn (he.run pins s σ H _ I h) fun v s1 ⟨x, H1, I1, r1, q1⟩ => ?_)
  obtain ⟨a, xs, ex, hx, q⟩ := q1
  subst ex
  cases r1
  have hst : PO X (some (.UnaryOp .USub (.Constant (.int 1) k p1) p2)) (tPart (tUn (rU fun i => .int (-i)) (tC (.int 1)))) := po_some (pe_un un_neg pe_int)
  refine wpAny_Slice (thn (po_none.run pins s1 σ H1 (fun o H2 => o = none ∧ H2 = H1) I1 ⟨rfl, rfl⟩) fun vl s2 ⟨l, H2, I2, pl, el, e2⟩ => ?_)
  subst el e2
  refine thn (po_none.run pins s2 σ H2 (fun o H3 => o = none ∧ H3 = H2) I2 ⟨rfl, rfl⟩) fun vu s3 ⟨u, H3, I3, pu, eu, e3⟩ => ?_
  subst eu e3
  refine thn (hst.run pins s3 σ H3 (fun o H4 => o = some (-1) ∧ H4 = H3) I3 ⟨1, rfl, -1, rfl, rfl, rfl⟩) fun vs s4 ⟨o, H4, I4, ps, eo, e4⟩ => ?_
  subst eo e4
  have I5 : Inv X pins σ H4 { s4 with heap := s4.heap.push { cls := .type "slice", data := .fields #[vl, vu, vs] } } := I4.kept (t' := s4.toks) fun b ob q => Heap.get?_push_of_some _ q
  obtain ⟨its, r, ht, hz⟩ := I5.tuple hx
  have hlen := r.length
  cases ps with
  | int _ t' =>
    show wpAny (model X.prog X.w) X.A (subscriptTail e (.Slice none none (some (.UnaryOp .USub (.Constant (.int 1) k p1) p2)) p3) (.ref a) (.ref s4.heap.objs.size)) (EP X pins σ Q) X.xe { s4 with heap := s4.heap.push { cls := .type "slice", data := .fields #[vl, vu, .int (-1) t'] } }
    refine tail_any (ops := [.ref a, .ref s4.heap.objs.size]) ht.typeIs PyProof.Rows.slot_tuple_getitem.lookup (tup_cutR ht (Heap.IsSliceOf.new _ vl vu (.int (-1) t')) pl pu ?_ (by rw [List.size_toArray]; omega)) (by with_unfolding_all rfl)
    refine ⟨.ref _, _, I5.laid (t' := s4.toks) (o := .tup xs.reverse) (fun b ob q => Heap.get?_push_of_some _ q) (Nat.le_refl _) ?_, rfl, q _ (I5.hok.fresh (Nat.le_refl _))⟩
    exact ⟨by rw [List.length_reverse]; exact hz, _, by simpa using r.reverse, IsTup.new _ _⟩
theorem RpA.revT {K : PySem.W.Frag} {F : Hp} : ∀ {vs : List V} {ds : List DD}, RpA K F vs ds → RpA K F vs.reverse ds.reverse
  | _, _, .nil => .nil
  | _, _, .cons h t => by
    rw [List.reverse_cons, List.reverse_cons]
    exact (RpA.revT t).append (.cons h .nil)
def eRevT (fa : Env → M DD) : Env → M DD := fun env => bnd (fa env) fun x => match x with
  | .tup xs => ret (.tup xs.reverse)
  | _ => stk
@[simp] theorem eRevT_app (fa : Env → M DD) (env : Env) : eRevT fa env = bnd (fa env) fun x => match x with
  | .tup xs => ret (.tup xs.reverse)
  | _ => stk := rfl
theorem de_revT (hK : B.K = X.K) (ha : DE X B W e fa) : DE X B W (.Subscript e (.Slice none none (some (.UnaryOp .USub (.Constant (.int 1) k p1) p2)) p3) pos) (eRevT fa) := by
  obtain ⟨t, pp, s⟩ := ha.ex
  refine ⟨_, pe_revT pp, fun env S σ F H sa k Q h => s env S σ F H sa k _ ((Post.bnd h).imp fun d S1 h1 v F1 H1 k1 g1 r1 => ?_)⟩
  cases d with
  | tup ds =>
    obtain ⟨a, xs, rfl, h2, h3⟩ := r1.tup_inv
    exact ⟨a, xs, rfl, hK ▸ sqT_same k1.fh h2, good_sameF g1 k1 h1 fun p F' e hp => .tup (SqT.of hp) (RpA.same e _ h3.revT)⟩
  | _ => exact h1.elim
end
end AU
/-! sorted(set(t)) -/
namespace AU
open PySem PySem.Spec PyProof.Rows L2 PySem.Calls SrtO
section
variable {α β : Type}
theorem perm_lift {f : α → β} : ∀ {out : List β} {L : List α}, out.Perm (L.map f) → ∃ L' : List α, out = L'.map f ∧ L'.Perm L
  | [], L, h => by
    have := h.symm.eq_nil
    exact ⟨[], rfl, by rw [List.map_eq_nil_iff] at this; rw [this]⟩
  | x :: out, L, h => by
    obtain ⟨q, hq, e⟩ := List.mem_map.mp (h.mem_iff.mp (List.mem_cons_self (a := x) (l := out)))
    obtain ⟨s, t, rfl⟩ := List.append_of_mem hq
    have p1 : (s ++ q :: t).Perm (q :: (s ++ t)) := List.perm_middle
    have h2 : (x :: out).Perm (x :: (s ++ t).map f) := by
      have := h.trans (p1.map f)
      rw [List.map_cons, e] at this
      exact this
    obtain ⟨L', e2, p2⟩ := perm_lift (h2.cons_inv)
    exact ⟨q :: L', by rw [List.map_cons, e, e2], (p2.cons q).trans p1.symm⟩
theorem srt_uniq {lt : α → α → Bool} : ∀ {l m : List α}, Srtd lt l → Srtd lt m → l.Perm m → (∀ x ∈ l, ∀ y ∈ l, lt x y = false → lt y x = false → x = y) → l = m
  | [], m, _, _, p, _ => (p.symm.eq_nil).symm
  | x :: l, [], _, _, p, _ => absurd p.length_eq (by simp)
  | x :: l, y :: m, h1, h2, p, a => by
    obtain ⟨h3, h4⟩ := List.pairwise_cons.mp h1
    obtain ⟨h5, h6⟩ := List.pairwise_cons.mp h2
    have e : x = y := by
      rcases List.mem_cons.mp (p.mem_iff.mp (List.mem_cons_self (a := x) (l := l))) with e | e
      · exact e
      · have hy := p.mem_iff.mpr (List.mem_cons_self (a := y) (l := m))
        rcases List.mem_cons.mp hy with e2 | e2
        · exact e2.symm
        · exact a x (by simp) y hy (h5 x e) (h3 y e2)
    subst e
    rw [srt_uniq h4 h6 p.cons_inv fun u hu v hv => a u (by simp [hu]) v (by simp [hv])]
end
/-- one of each key -/
def dedD : List DD → List DD
  | [] => []
  | d :: ds => if keyD d ∈ ds.map keyD then dedD ds else d :: dedD ds
theorem dedD_sub : ∀ {ds : List DD}, ∀ d ∈ dedD ds, d ∈ ds
  | [], d, h => h
  | x :: ds, d, h => by
    unfold dedD at h
    by_cases c : keyD x ∈ ds.map keyD
    · rw [if_pos c] at h
      exact List.mem_cons_of_mem _ (dedD_sub d h)
    · rw [if_neg c] at h
      rcases List.mem_cons.mp h with rfl | h
      · exact List.mem_cons_self
      · exact List.mem_cons_of_mem _ (dedD_sub d h)
theorem dedD_all : ∀ {ds : List DD}, ∀ k ∈ ds.map keyD, k ∈ (dedD ds).map keyD
  | [], k, h => h
  | x :: ds, k, h => by
    unfold dedD
    rw [List.map_cons] at h
    by_cases c : keyD x ∈ ds.map keyD
    · rw [if_pos c]
      rcases List.mem_cons.mp h with rfl | h
      · exact dedD_all _ c
      · exact dedD_all k h
    · rw [if_neg c, List.map_cons]
      rcases List.mem_cons.mp h with rfl | h
      · exact List.mem_cons_self
      · exact List.mem_cons_of_mem _ (dedD_all k h)
theorem dedD_nd : ∀ {ds : List DD}, ((dedD ds).map keyD).Nodup
  | [] => List.nodup_nil
  | x :: ds => by
    unfold dedD
    by_cases c : keyD x ∈ ds.map keyD
    · rw [if_pos c]
      exact dedD_nd
    · rw [if_neg c, List.map_cons]
      refine List.nodup_cons.mpr ⟨fun h => c ?_, dedD_nd⟩
      obtain ⟨d, hd, e⟩ := List.mem_map.mp h
      exact List.mem_map.mpr ⟨d, dedD_sub d hd, e⟩
theorem nkDs_flat : ∀ {sg : List Bool} {xs : List DD}, flatAll sg xs = true → nkDs xs = some ((xs.map intOf).map .num)
  | _, [], _ => rfl
  | [], _ :: _, h => by simp [flatAll] at h
  | b :: sg, d :: ds, h => by
    cases b with
    | false =>
      cases d <;> simp [flatAll] at h
      rename_i i
      unfold nkDs
      rw [nkDs_flat h]
      rfl
    | true =>
      cases d <;> simp [flatAll] at h
      rename_i i
      unfold nkDs
      rw [nkDs_flat h]
      rfl
theorem flat_inj : ∀ {sg : List Bool} {xs ys : List DD}, flatAll sg xs = true → flatAll sg ys = true → xs.map intOf = ys.map intOf → xs = ys
  | _, [], [], _, _, _ => rfl
  | _, [], _ :: _, _, _, h => by simp at h
  | _, _ :: _, [], _, _, h => by simp at h
  | [], _ :: _, _ :: _, h, _, _ => by simp [flatAll] at h
  | b :: sg, d :: ds, e :: es, h1, h2, h => by
    rw [List.map_cons, List.map_cons, List.cons.injEq] at h
    cases b with
    | false =>
      cases d <;> simp [flatAll] at h1
      cases e <;> simp [flatAll] at h2
      rw [flat_inj h1 h2 h.2]
      have := h.1
      simp only [intOf] at this
      rw [this]
    | true =>
      cases d <;> simp [flatAll] at h1
      cases e <;> simp [flatAll] at h2
      rw [flat_inj h1 h2 h.2]
      have := h.1
      rename_i c c'
      cases c <;> cases c' <;> first | rfl | simp [intOf] at this
theorem num_inj : ∀ {a b : List Int}, a.map NestedKey.num = b.map NestedKey.num → a = b
  | [], [], _ => rfl
  | [], _ :: _, h => by simp at h
  | _ :: _, [], h => by simp at h
  | x :: a, y :: b, h => by
    rw [List.map_cons, List.map_cons, List.cons.injEq] at h
    rw [num_inj h.2]
    have := h.1
    injection this with this
    rw [this]
theorem keyD_inj {sg : List Bool} {d d' : DD} (h : flatOk sg d = true) (h' : flatOk sg d' = true) (k : keyOk d = true) (e : keyD d = keyD d') : d = d' := by
  cases d with
  | tup xs =>
    cases d' with
    | tup ys =>
      obtain ⟨kk, hk, _⟩ := keyOk_of k
      rw [hk] at e
      unfold keyD at hk e
      simp only [nkDs_flat (show flatAll sg xs = true from h), nkDs_flat (show flatAll sg ys = true from h')] at hk e
      split at hk
      · split at e
        · have e2 := hk.trans e
          injection e2 with e2
          injection e2 with e2
          rw [flat_inj h h' (num_inj e2)]
        · cases e
      · cases hk
    | _ => cases h'
  | _ => cases h
theorem lexL_eq : ∀ {xs ys : List Int}, xs.length = ys.length → lexL xs ys = false → lexL ys xs = false → xs = ys
  | [], [], _, _, _ => rfl
  | [], _ :: _, h, _, _ => by simp at h
  | _ :: _, [], h, _, _ => by simp at h
  | x :: xs, y :: ys, h, a, b => by
    unfold lexL at a b
    by_cases e : x = y
    · rw [if_pos e] at a
      rw [if_pos e.symm] at b
      rw [e, lexL_eq (by simpa using h) a b]
    · rw [if_neg e] at a
      rw [if_neg (fun q => e q.symm)] at b
      have a := of_decide_eq_false a
      have b := of_decide_eq_false b
      exact absurd (by omega) e
theorem flat_len : ∀ {sg : List Bool} {xs : List DD}, flatAll sg xs = true → xs.length = sg.length
  | [], [], _ => rfl
  | [], _ :: _, h => by simp [flatAll] at h
  | b :: sg, [], h => by cases b <;> simp [flatAll] at h
  | b :: sg, d :: ds, h => by
    cases b with
    | false =>
      cases d <;> simp [flatAll] at h
      simp [flat_len h]
    | true =>
      cases d <;> simp [flatAll] at h
      simp [flat_len h]
theorem ltD_eq {sg : List Bool} {d d' : DD} (h : flatOk sg d = true) (h' : flatOk sg d' = true) (a : ltD sg.length d d' = false) (b : ltD sg.length d' d = false) : d = d' := by
  cases d with
  | tup xs =>
    cases d' with
    | tup ys =>
      have l1 : (fkD (.tup xs)).length = sg.length := by simp [fkD, itemsD, flat_len (show flatAll sg xs = true from h)]
      have l2 : (fkD (.tup ys)).length = sg.length := by simp [fkD, itemsD, flat_len (show flatAll sg ys = true from h')]
      unfold ltD at a b
      rw [cutK_id l1, cutK_id l2] at a b
      have := lexL_eq (by rw [l1, l2]) a b
      rw [flat_inj h h' this]
    | _ => cases h'
  | _ => cases h
def srtSetD (xs : List DD) : List DD := isrt (ltD (sgsD xs).length) (dedD xs)
theorem ltD_swo (n : Nat) : Swo (ltD n) := swo_cut n fkD
/-- what is sorted, of these keys, is that -/
theorem srtSet_uniq {xs D : List DD} (ok : srtOk xs = true) (kk : xs.all keyOk = true) (sub : ∀ d ∈ D, d ∈ xs) (all : ∀ k ∈ xs.map keyD, k ∈ D.map keyD) (nd : (D.map keyD).Nodup) (hs : Srtd (ltD (sgsD xs).length) D) : D = srtSetD xs := by
  obtain ⟨_, hall⟩ := Bool.and_eq_true_iff.mp (show ((sgsD xs).head? == some false && xs.all (flatOk (sgsD xs))) = true from ok)
  have hall := List.all_eq_true.mp hall
  have hkey := List.all_eq_true.mp kk
  have ndD : D.Nodup := List.Pairwise.of_map keyD (fun a b h e => h (by rw [e])) nd
  have ndE : (dedD xs).Nodup := List.Pairwise.of_map keyD (fun a b h e => h (by rw [e])) dedD_nd
  have pm : D.Perm (dedD xs) := (List.perm_ext_iff_of_nodup ndD ndE).mpr fun x => by
    constructor
    · intro hx
      have h1 := sub x hx
      obtain ⟨y, hy, e⟩ := List.mem_map.mp (dedD_all _ (List.mem_map.mpr ⟨x, h1, rfl⟩))
      rw [← keyD_inj (hall y (dedD_sub y hy)) (hall x h1) (hkey y (dedD_sub y hy)) e]
      exact hy
    · intro hx
      have h1 := dedD_sub x hx
      obtain ⟨y, hy, e⟩ := List.mem_map.mp (all _ (List.mem_map.mpr ⟨x, h1, rfl⟩))
      rw [← keyD_inj (hall y (sub y hy)) (hall x h1) (hkey y (sub y hy)) e]
      exact hy
  exact srt_uniq hs (isrt_srtd (ltD_swo _) _) (pm.trans (isrt_perm _ _).symm) fun x hx y hy => ltD_eq (hall x (sub x hx)) (hall y (sub y hy))

def tSrtSet (K : PySem.W.Frag) (t : TA) : TE := fun σ H Q => t σ H fun vs H1 => ∃ (l : Addr) (ys : List SA.NEnt) (sg : List Bool) (kf : V → List Int), vs = [V.ref l] ∧ SqT K H1 l (ys.map fun y => V.ref y.1) ∧ (∀ y ∈ ys, SA.NE K H1 y) ∧ ys.length < 300 ∧ sg.head? = some false ∧
  (∀ y ∈ ys, ∃ zs, SqT K H1 y.1 zs ∧ FlatV sg (kf (.ref y.1)) zs) ∧
  (TupFn K H1 → ∀ (L : List SA.NEnt) (out : List V) (p : Addr), (∀ q ∈ L, q ∈ ys) → (∀ q ∈ ys, q.2 ∈ L.map (·.2)) → (L.map (·.2)).Nodup → out.Perm (L.map fun q => V.ref q.1) → Srtd (ltF sg.length kf) out → H1 p = none → Q (.ref p) (upd H1 p (.lst out)))
section
variable {X : Cx} {B : Bs} {W : WX} {e : Expr} {t : TA} {fr : Env → M (List DD)} {p p2 pos pos2 : Pos}
theorem pe_srtSet (hc : X.calm = true) (hu : X.A.units + 64 < cLine) (hg : Gl X "sorted") (hm : X.mg "sorted" = none) (hg2 : Gl X "set") (hm2 : X.mg "set" = none) (ha : PA X [e] t) (nb : starEach [e] X.env = (false, eval e X.env) :: starEach [] X.env) (hp : (backTo pos2 (starEach [] X.env)).any (·.1) = false)
    (nc : starEach [Expr.Call (.Name "set" p2) [e] [] pos2] X.env = (false, eval (Expr.Call (.Name "set" p2) [e] [] pos2) X.env) :: starEach [] X.env) (hp2 : (backTo pos (starEach [] X.env)).any (·.1) = false) :
    PE X (.Call (.Name "sorted" p) [.Call (.Name "set" p2) [e] [] pos2] [] pos) (tSrtSet X.K t) := by
  refine ⟨fun pins s σ H Q I h => ?_⟩
  refine Call_ (ld_blt I hg hm boot_sorted (PyProof.Rows.callWith_builtin1 (args_cons ?_ nc) nc hp2))
  refine Call_ (ld_blt I hg2 hm2 boot_set (PyProof.Rows.callWith_type1 (thn (ha.run pos2 pins s σ H _ I h) fun us s1 ⟨vs, H1, I1, r1, q1⟩ => ?_) nb hp))
  obtain ⟨l, ys, sg, kf, rfl, hq, ne, few, hsg, hfl, q⟩ := q1
  obtain ⟨u, rfl, rx⟩ := vals1 r1
  cases rx
  obtain ⟨its, r2, ⟨o, ho, hcl, n, hdt⟩, _⟩ := I1.tuple hq
  have e := SA.ref_vals r2
  refine SA.call_set (knd := nestedKind X.prog X.w) (B := True) SA.keepS SA.keepU ys (I1.ok.hd hc) ⟨o, ho, hcl, n, hdt⟩ (by simpa using e) (fun p hp => SA.ent_of I1 (ne p hp).nk (ne p hp).dp (ne p hp).fl) few ?_ fun h' tk L es ep t R g kk => ?_
  · show X.A.units + 1 + 1 + 1 + 8 < cLine
    omega
  have sub : ∀ p ∈ L, p ∈ ys := fun p hp => List.mem_of_mem_take (g.sub p hp)
  have I2 : Inv X pins σ H1 { s1 with heap := h', toks := tk } := I1.kept kk
  refine args_nil ?_
  refine SA.sorted_set (s := { s1 with heap := h', toks := tk }) R (I1.ok.hd hc) (by have := g.len; omega) (k := fun u => kf (backV u)) hsg (fun p hp => ?_) fun s2 h2 tk2 d ws out gg oo pm hs hb k1 k2 hd hn => ?_
  · obtain ⟨zs, hz1, hz2⟩ := hfl p (sub p hp)
    obtain ⟨its2, r3, ⟨o2, ho2, hc2, n2, hd2⟩, _⟩ := I2.tuple hz1
    exact ⟨p.1, o2, n2, _, rfl, ho2, hc2, hd2, hz2.is (by simpa using r3)⟩
  · obtain ⟨nn, hn⟩ := hn
    have po : out.Perm (L.map fun p => Value.ref p.1) := hb.perm.trans pm
    have h3 : ∀ u ∈ out, ∃ a, u = Value.ref a := fun u hu => by
      obtain ⟨q, _, e⟩ := List.mem_map.mp (po.mem_iff.mp hu)
      exact ⟨q.1, e.symm⟩
    have pv : (out.map backV).Perm (L.map fun q => V.ref q.1) := by
      have := po.map backV
      rw [List.map_map] at this
      exact this
    have kx : ∀ b o, s1.heap.get? b = some o → h2.get? b = some o := fun b o q => k2 b o (k1 b o (kk b o q))
    have hd' : s1.heap.objs.size ≤ d := by
      obtain ⟨so, hso, _⟩ := R.ob
      have hz := Heap.lt_size (k1 _ _ hso)
      exact Nat.le_of_lt (Nat.lt_of_lt_of_le hz hd)
    have hnone : H1 d = none := I1.hok.fresh hd'
    have hlen : (out.map backV).length ≤ sizeLine := by
      rw [pv.length_eq, List.length_map, sizeLine_eq]
      have := g.len
      omega
    have J : Inv X pins σ (upd H1 d (.lst (out.map backV))) { s1 with heap := h2, gens := s2.gens, drawn := s2.drawn, toks := tk2 } :=
      I1.call (ch := []) (Un.laid kx hd' hnone) (I1.hok.laid kx hd' ⟨hlen, out, nn, vals_back h3, hn⟩) (by rw [gg]; exact I1.bare) (fun _ z => nomatch z)
    have es : ({ s2 with heap := h2, toks := tk2 } : Shared) = { s1 with heap := h2, gens := s2.gens, drawn := s2.drawn, toks := tk2 } := by
      cases s2
      cases s1
      cases oo
      rfl
    rw [es]
    exact ⟨.ref d, _, J, rfl, q (fun t ys zs h1 h2 => I1.tuple_inj h1 h2) L _ d sub (fun p hp => g.all p (by rw [List.take_length]; exact hp)) R.nd pv (SrtO.srtd_map hs) hnone⟩
def eSrtSet (f : Env → M (List DD)) : Env → M DD := fun env => bnd (f env) fun ds => match ds with
  | [.tup xs] => if (setOk xs && srtOk xs) = true then ret (.lst (srtSetD xs)) else stk
  | _ => stk
@[simp] theorem eSrtSet_app (f : Env → M (List DD)) (env : Env) : eSrtSet f env = bnd (f env) fun ds => match ds with
  | [.tup xs] => if (setOk xs && srtOk xs) = true then ret (.lst (srtSetD xs)) else stk
  | _ => stk := rfl
theorem mem_zip_of {α β : Type} : ∀ {xs : List α} {ys : List β}, xs.length = ys.length → ∀ x ∈ xs, ∃ y, (x, y) ∈ xs.zip ys
  | [], _, _, x, h => by cases h
  | _ :: _, [], h, _, _ => by simp at h
  | a :: xs, b :: ys, h, x, hx => by
    rcases List.mem_cons.mp hx with rfl | hx
    · exact ⟨b, by simp⟩
    · obtain ⟨y, hy⟩ := mem_zip_of (ys := ys) (by simpa using h) x hx
      exact ⟨y, by simp [hy]⟩
theorem pick_all {α β : Type} {P : α → β → Prop} : ∀ {xs : List α}, (∀ x ∈ xs, ∃ y, P x y) → ∃ pr : List (α × β), pr.map (·.1) = xs ∧ ∀ p ∈ pr, P p.1 p.2
  | [], _ => ⟨[], rfl, fun p hp => by cases hp⟩
  | x :: xs, h => by
    obtain ⟨y, hy⟩ := h x (by simp)
    obtain ⟨pr, e, hp⟩ := pick_all (xs := xs) fun z hz => h z (by simp [hz])
    refine ⟨(x, y) :: pr, by rw [List.map_cons, e], fun p hq => ?_⟩
    rcases List.mem_cons.mp hq with rfl | hq
    · exact hy
    · exact hp p hq
theorem key_zip {ys : List SA.NEnt} {ds : List DD} : ∀ {ys : List SA.NEnt} {ds : List DD}, ys.map (fun y => some y.2) = ds.map keyD → ∀ p ∈ ys.zip ds, keyD p.2 = some p.1.2
  | [], _, _, p, h => by simp at h
  | _ :: _, [], _, p, h => by simp at h
  | y :: ys, d :: ds, e, p, h => by
    rw [List.map_cons, List.map_cons, List.cons.injEq] at e
    rw [List.zip_cons_cons] at h
    rcases List.mem_cons.mp h with rfl | h
    · exact e.1.symm
    · exact key_zip (ys := ys) (ds := ds) e.2 p h
theorem zip_refs {ys : List SA.NEnt} {ds : List DD} {p : SA.NEnt × DD} (h : p ∈ ys.zip ds) : (V.ref p.1.1, p.2) ∈ (ys.map fun y => V.ref y.1).zip ds := by
  induction ys generalizing ds with
  | nil => simp at h
  | cons y ys ih =>
    cases ds with
    | nil => simp at h
    | cons d ds =>
      rw [List.zip_cons_cons] at h
      rw [List.map_cons, List.zip_cons_cons]
      rcases List.mem_cons.mp h with rfl | h
      · exact List.mem_cons_self
      · exact List.mem_cons_of_mem _ (ih h)
theorem keyV_at {K : PySem.W.Frag} {F H : Hp} (eF : Same F H) {ws : List V} {ds : List DD} {sg : List Bool} (r : RpA K F ws ds) (hall : ∀ d ∈ ds, flatOk sg d = true) :
    (∀ p ∈ ws.zip ds, ∃ t ys, p.1 = V.ref t ∧ SqT K H t ys ∧ FlatV sg (fkD p.2) ys) ∧ (∀ p ∈ ws.zip ds, ∃ t ys, p.1 = V.ref t ∧ SqT K H t ys ∧ FlatV sg (keyV (ws.zip ds) p.1) ys) ∧ (TupFn K H → ∀ p ∈ ws.zip ds, keyV (ws.zip ds) p.1 = fkD p.2) := by
  have hz := r.zip
  have one : ∀ p ∈ ws.zip ds, ∃ t ys, p.1 = V.ref t ∧ SqT K H t ys ∧ FlatV sg (fkD p.2) ys := fun p hp => by
    have rp := hz p hp
    have f := hall _ (List.of_mem_zip hp).2
    obtain ⟨v, d⟩ := p
    cases d with
    | tup es =>
      obtain ⟨t, ys, e1, h1, h2⟩ := rp.tup_inv
      exact ⟨t, ys, e1, sqT_same eF h1, flatV_of f h2⟩
    | _ => cases f
  have fnd : ∀ p ∈ ws.zip ds, ∃ q ∈ ws.zip ds, q.1 = p.1 ∧ keyV (ws.zip ds) p.1 = fkD q.2 := fun p hp => by
    cases hf : (ws.zip ds).find? (fun q => decide (q.1 = p.1)) with
    | none =>
      have := List.find?_eq_none.mp hf p hp
      simp at this
    | some q =>
      have he := List.find?_some hf
      simp only [decide_eq_true_eq] at he
      refine ⟨q, List.mem_of_find?_eq_some hf, he, ?_⟩
      unfold keyV
      rw [hf]
  refine ⟨one, fun p hp => ?_, fun tf p hp => ?_⟩
  · obtain ⟨q, hq, e1, e2⟩ := fnd p hp
    obtain ⟨t, ys, a, b, c⟩ := one q hq
    exact ⟨t, ys, by rw [← e1, a], b, by rw [e2]; exact c⟩
  · obtain ⟨q, hq, e1, e2⟩ := fnd p hp
    obtain ⟨t, ys, a, b, c⟩ := one p hp
    obtain ⟨t', ys', a', b', c'⟩ := one q hq
    rw [e1, a] at a'
    cases a'
    cases tf t ys ys' b b'
    rw [e2]
    exact flatV_fn c' c
theorem de_srtSet {n : Nat} (hK : B.K = X.K) (hc : X.calm = true) (hr : Room n X.A) (hm : X.mg "sorted" = none) (hm2 : X.mg "set" = none) (ha : DA X B W [e] fr) (hg : Gl X "sorted" := by rfl) (hg2 : Gl X "set" := by rfl) (nb : starEach [e] X.env = (false, eval e X.env) :: starEach [] X.env := by rfl) (hp : (backTo pos2 (starEach [] X.env)).any (·.1) = false := by rfl)
    (nc : starEach [Expr.Call (.Name "set" p2) [e] [] pos2] X.env = (false, eval (Expr.Call (.Name "set" p2) [e] [] pos2) X.env) :: starEach [] X.env := by rfl) (hp2 : (backTo pos (starEach [] X.env)).any (·.1) = false := by rfl) :
    DE X B W (.Call (.Name "sorted" p) [.Call (.Name "set" p2) [e] [] pos2] [] pos) (eSrtSet fr) := by
  obtain ⟨t, pp, s⟩ := ha.ex
  refine ⟨_, pe_srtSet hc hr.units hg hm hg2 hm2 pp nb hp nc hp2, fun env S σ F H sa k Q h => s env S σ F H sa k _ ((Post.bnd h).imp fun ds S1 h1 vs F1 H1 k1 g1 r1 => ?_)⟩
  split at h1
  · rename_i xs
    obtain ⟨ok, h2⟩ := post_if h1
    clear h1
    obtain ⟨ok1, ok2⟩ := Bool.and_eq_true_iff.mp ok
    obtain ⟨o1, o2⟩ := Bool.and_eq_true_iff.mp (show (decide (xs.length < 300) && xs.all keyOk) = true from ok1)
    obtain ⟨hs0, hall⟩ := Bool.and_eq_true_iff.mp (show ((sgsD xs).head? == some false && xs.all (flatOk (sgsD xs))) = true from ok2)
    have hall := List.all_eq_true.mp hall
    obtain ⟨v, rfl, r2⟩ := rpa1 r1
    obtain ⟨l, ws, rfl, e1, e2⟩ := r2.tup_inv
    obtain ⟨ys, rfl, ek, ne⟩ := ents_of e2 o2
    obtain ⟨ka, kb, kc⟩ := keyV_at k1.fh e2 hall
    have hl : ys.length = xs.length := by
      have := e2.length
      rwa [List.length_map] at this
    refine ⟨l, ys, sgsD xs, keyV ((ys.map fun y => V.ref y.1).zip xs), rfl, hK ▸ sqT_same k1.fh e1, fun y hy => hK ▸ NE.same k1.fh (ne y hy), ?_, by simpa using hs0, fun y hy => ?_, fun tf L out p sub all nd pm hs hp => ?_⟩
    · rw [hl]
      exact of_decide_eq_true o1
    · obtain ⟨d, hd⟩ := mem_zip_of hl y hy
      obtain ⟨t, zs, a, b, c⟩ := kb _ (zip_refs hd)
      cases a
      exact ⟨zs, hK ▸ b, c⟩
    · obtain ⟨L', rfl, pL⟩ := perm_lift pm
      obtain ⟨pr, epr, hpr⟩ := pick_all (P := fun (y : SA.NEnt) (d : DD) => (y, d) ∈ ys.zip xs) (xs := L') fun y hy => mem_zip_of hl y (sub y (pL.mem_iff.mp hy))
      have kz := key_zip (ys := ys) (ds := xs) ek
      have kk := kc (hK ▸ tf)
      have eD : pr.map (·.2) = srtSetD xs := by
        have ekey : (pr.map (·.2)).map keyD = L'.map fun y => some y.2 := by
          rw [← epr, List.map_map, List.map_map]
          exact List.map_congr_left fun p hp => kz _ (hpr p hp)
        refine srtSet_uniq ok2 o2 (fun d hd => ?_) (fun key hk => ?_) ?_ ?_
        · obtain ⟨p, hp, rfl⟩ := List.mem_map.mp hd
          exact (List.of_mem_zip (hpr p hp)).2
        · rw [ekey]
          rw [← ek] at hk
          obtain ⟨y, hy, rfl⟩ := List.mem_map.mp hk
          obtain ⟨q, hq, e⟩ := List.mem_map.mp (all y hy)
          exact List.mem_map.mpr ⟨q, pL.mem_iff.mpr hq, congrArg some e⟩
        · rw [ekey]
          have : ((L'.map (·.2))).Nodup := (pL.map (·.2)).nodup_iff.mpr nd
          have z : (L'.map fun y => some y.2) = (L'.map (·.2)).map some := by rw [List.map_map]; rfl
          rw [z]
          exact List.Pairwise.map some (fun a b h e => h (Option.some.inj e)) this
        · rw [← epr, List.map_map] at hs
          have hs := List.pairwise_map.mp hs
          refine List.pairwise_map.mpr (List.Pairwise.imp_of_mem (fun {a b} hA hB h => ?_) hs)
          have za := kk _ (zip_refs (hpr a hA))
          have zb := kk _ (zip_refs (hpr b hB))
          show lexL (cutK _ (fkD b.2)) (cutK _ (fkD a.2)) = false
          rw [← za, ← zb]
          exact h
      refine good_sameF g1 k1 h2 (fun q F' e hq => .lst hq ?_) (by intro ps z; cases z) p hp
      rw [← eD, ← epr, List.map_map]
      have hz := (RpA.same e _ e2).zip
      have : ∀ l : List (SA.NEnt × DD), (∀ p ∈ l, p ∈ ys.zip xs) → RpA B.K F' (l.map ((fun y : SA.NEnt => V.ref y.1) ∘ (·.1))) (l.map (·.2)) := fun l => by
        induction l with
        | nil => intro _; exact .nil
        | cons a l ih => exact fun h => .cons (hz _ (zip_refs (h a (by simp)))) (ih fun p hp => h p (by simp [hp]))
      exact this pr hpr
  · exact h1.elim
end
end AU
namespace AUL
open PySem PySem.Spec PyProof.Rows L2 AU
abbrev Env := AU.Env
def top (i : Nat) : Stmt := PySem.Challenge.pw_anyumbrellas_k05_whole_papers_of_dry_wal.main.body.getD i (.Pass ⟨0, 0, 0, 0⟩)
def nx_ : Nat := 4
def kx_InvalidBook : Nat := 0
def kx_InvalidClimate : Nat := 1
def kx_InvalidNumber : Nat := 2
def kx_InvalidPaper : Nat := 3
def fuel_ : Env → Sr → Nat := fun _ _ => 100000
def cl_word : List (Nat × Str) := [(kx_InvalidNumber, "number"), (kx_InvalidPaper, "paper")]
theorem sc__law_word : FnScope ["_law_call", "_law_found"] ["_law_call"] (defScope (top 48)) := ⟨rfl, rfl, rfl, by decide +kernel, rfl, by decide +kernel, by decide +kernel⟩
structure Txt (K : PySem.W.Frag) (mg : Str → Option Value) (cls : Nat → Value) : Prop where
  f_abs : mg "abs" = none
  f_all : mg "all" = none
  f_any : mg "any" = none
  f_bool : mg "bool" = none
  f_dict : mg "dict" = none
  f_enumerate : mg "enumerate" = none
  f_int : mg "int" = none
  f_isinstance : mg "isinstance" = none
  f_len : mg "len" = none
  f_list : mg "list" = none
  f_min : mg "min" = none
  f_range : mg "range" = none
  f_set : mg "set" = none
  f_sorted : mg "sorted" = none
  f_str : mg "str" = none
  f_tuple : mg "tuple" = none
  f_zip : mg "zip" = none
  g_CLIMATES : GloT K mg "CLIMATES" (.tup [.str "any", .str "days", .str "rare"])
  g_DEEDS : GloT K mg "DEEDS" (.tup [.str "leave", .str "take"])
  g_FEW : ∃ t, mg "FEW" = some (.int 30 t)
  g_MOST_MOODS : ∃ t, mg "MOST_MOODS" = some (.int 2 t)
  x_InvalidBook : ExC K mg cls "InvalidBook" kx_InvalidBook
  mg_InvalidBook : mg "InvalidBook" = some (cls kx_InvalidBook)
  x_InvalidClimate : ExC K mg cls "InvalidClimate" kx_InvalidClimate
  mg_InvalidClimate : mg "InvalidClimate" = some (cls kx_InvalidClimate)
  x_InvalidNumber : ExC K mg cls "InvalidNumber" kx_InvalidNumber
  mg_InvalidNumber : mg "InvalidNumber" = some (cls kx_InvalidNumber)
  x_InvalidPaper : ExC K mg cls "InvalidPaper" kx_InvalidPaper
  mg_InvalidPaper : mg "InvalidPaper" = some (cls kx_InvalidPaper)
  exm : ExmA K cls nx_
/-! is_from -/
def N_is_from : List Str := ["value", "low", "high"]
theorem sc_is_from : FnScope N_is_from ["value", "low", "high"] (defScope (top 11)) := ⟨rfl, rfl, rfl, by decide +kernel, rfl, by decide +kernel, by decide +kernel⟩
def f_is_from : SF := (sRet (eAnd (eB bIsi (aCons (eVar 0) (aCons (eC (.raw (.ty "int"))) aNil))) (eAnd (eNot (eB bIsi (aCons (eVar 0) (aCons (eC (.raw (.ty "bool"))) aNil)))) (eChain opLe opLe (eVar 1) (eVar 0) (eVar 2)))))
def m_is_from : List AU.It → M DD := runB 3 f_is_from
theorem b_is_from {P : Program} {w : World} {K : PySem.W.Frag} {mg : Str → Option Value} {base : Heap} {cls : Nat → Value} (T : Txt K mg cls)  {f : Addr} : BodyOk P w K mg base cls N_is_from "is_from" (top 11) f 0 f_is_from := by
  intro cdv A outer s H E B hr hK hc hT
  subst hK hc
  exact (dss_one (ds_ret (de_and (de_isi rfl T.f_isinstance (da_cons (de_var 0) (da_cons (de_ty T.f_int) da_nil))) (de_and (de_not (de_isi rfl T.f_isinstance (da_cons (de_var 0) (da_cons (de_ty T.f_bool) da_nil)))) (de_one (de_lele (de_var 1) (de_var 0) (de_var 2)))))))
theorem c_is_from {P : Program} {w : World} {K : PySem.W.Frag} {mg : Str → Option Value} {base : Heap} {cls : Nat → Value} (T : Txt K mg cls)  {f : Addr} {fd : FuncData} (F : Fun K "is_from" "is_from" (top 11) f fd) (hm : mg "is_from" = some (.ref f)) : FnC P w K mg base cls "is_from" 3 1 m_is_from :=
  fnC_of F sc_is_from hm (F.binds fun _ _ _ _ _ _ us hl => match us, hl with | [_, _, _], _ => rfl) (b_is_from T )
/-! need_climate -/
def N_need_climate : List Str := ["value"]
theorem sc_need_climate : FnScope N_need_climate ["value"] (defScope (top 16)) := ⟨rfl, rfl, rfl, by decide +kernel, rfl, by decide +kernel, by decide +kernel⟩
def f_need_climate : SF := (sIf (tOrD (tNotD (tV (eB bIsi (aCons (eVar 0) (aCons (eC (.raw (.ty "str"))) aNil))))) (tV (eOp opNotIn (eVar 0) (eC (.tup [.str "any", .str "days", .str "rare"])))))
  (sRaise kx_InvalidClimate)
  sNil)
def m_need_climate : List AU.It → M DD := runB 1 f_need_climate
theorem b_need_climate {P : Program} {w : World} {K : PySem.W.Frag} {mg : Str → Option Value} {base : Heap} {cls : Nat → Value} (T : Txt K mg cls)  {f : Addr} : BodyOk P w K mg base cls N_need_climate "need_climate" (top 16) f 0 f_need_climate := by
  intro cdv A outer s H E B hr hK hc hT
  subst hK hc
  exact (dss_one (ds_if (dw_pt (dw_or (dt_not (dt_val (de_isi rfl T.f_isinstance (da_cons (de_var 0) (da_cons (de_ty T.f_str) da_nil))))) (dw_or1 (dt_notin rfl hr (de_var 0) (de_globT T.g_CLIMATES)))))
  (dss_one (ds_raise rfl (takes_of rfl rfl rfl rfl) T.x_InvalidClimate))
  dss_nil))
theorem c_need_climate {P : Program} {w : World} {K : PySem.W.Frag} {mg : Str → Option Value} {base : Heap} {cls : Nat → Value} (T : Txt K mg cls)  {f : Addr} {fd : FuncData} (F : Fun K "need_climate" "need_climate" (top 16) f fd) (hm : mg "need_climate" = some (.ref f)) : FnC P w K mg base cls "need_climate" 1 1 m_need_climate :=
  fnC_of F sc_need_climate hm (F.binds fun _ _ _ _ _ _ us hl => match us, hl with | [_], _ => rfl) (b_need_climate T )
/-! look_of -/
def N_look_of : List Str := ["rain", "here"]
theorem sc_look_of : FnScope N_look_of ["rain", "here"] (defScope (top 20)) := ⟨rfl, rfl, rfl, by decide +kernel, rfl, by decide +kernel, by decide +kernel⟩
def f_look_of : SF := (sRet (eOp opAdd (eOp opMul (eC (.int 3)) (eB bInt (aCons (eVar 0) aNil))) (eB (b2I minI) (aCons (eVar 1) (aCons (eC (.int 2)) aNil)))))
def m_look_of : List AU.It → M DD := runB 2 f_look_of
theorem b_look_of {P : Program} {w : World} {K : PySem.W.Frag} {mg : Str → Option Value} {base : Heap} {cls : Nat → Value} (T : Txt K mg cls)  {f : Addr} : BodyOk P w K mg base cls N_look_of "look_of" (top 20) f 0 f_look_of := by
  intro cdv A outer s H E B hr hK hc hT
  subst hK hc
  exact (dss_one (ds_ret (de_add rfl (de_mul rfl de_int (de_int1 T.f_int (da_cons (de_var 0) da_nil))) (de_mn rfl T.f_min (da_cons (de_var 1) (da_cons de_int da_nil))))))
theorem c_look_of {P : Program} {w : World} {K : PySem.W.Frag} {mg : Str → Option Value} {base : Heap} {cls : Nat → Value} (T : Txt K mg cls)  {f : Addr} {fd : FuncData} (F : Fun K "look_of" "look_of" (top 20) f fd) (hm : mg "look_of" = some (.ref f)) : FnC P w K mg base cls "look_of" 2 1 m_look_of :=
  fnC_of F sc_look_of hm (F.binds fun _ _ _ _ _ _ us hl => match us, hl with | [_, _], _ => rfl) (b_look_of T )
/-! rains -/
def N_rains : List Str := ["climate", "stand", "place", "mood", "here", "last"]
theorem sc_rains : FnScope N_rains ["climate", "stand"] (defScope (top 23)) := ⟨rfl, rfl, rfl, by decide +kernel, rfl, by decide +kernel, by decide +kernel⟩
def f_rains : SF := (sSeq (sAsg (eVar 1) (gT 4 (gsC (gN 2) (gsC (gN 3) (gsC (gN 4) (gsC (gN 5) gsN))))))
  (sSeq (sIf (tAndD (tV (eOp opEq (eVar 0) (eC (.str "days")))) (tV (eOp opEq (eVar 2) (eC (.int 1)))))
  (sRet (eLst (aCons (eVar 5) aNil)))
  sNil)
  (sRet (eIf (tAndD (tV (eOp opEq (eVar 0) (eC (.str "rare")))) (tV (eVar 5))) (eLst (aCons (eC (.bl false)) aNil)) (eLst (aCons (eC (.bl false)) (aCons (eC (.bl true)) aNil)))))))
def m_rains : List AU.It → M DD := runB 6 f_rains
theorem b_rains {P : Program} {w : World} {K : PySem.W.Frag} {mg : Str → Option Value} {base : Heap} {cls : Nat → Value} (T : Txt K mg cls)  {f : Addr} : BodyOk P w K mg base cls N_rains "rains" (top 23) f 0 f_rains := by
  intro cdv A outer s H E B hr hK hc hT
  subst hK hc
  exact (dss_cons (ds_asg (de_var 1) (dg_tup rfl rfl (dgs_cons (dg_name 2 sc_rains.nd) (dgs_cons (dg_name 3 sc_rains.nd) (dgs_cons (dg_name 4 sc_rains.nd) (dgs_cons (dg_name 5 sc_rains.nd) dgs_nil))))))
  (dss_cons (ds_if (dw_pt (dw_and (dt_eq rfl hr (de_var 0) de_str) (dw_and1 (dt_eq rfl hr (de_var 2) de_int))))
  (dss_one (ds_ret (de_lst (da_cons (de_var 5) da_nil))))
  dss_nil)
  (dss_one (ds_ret (de_if (dw_pt (dw_and (dt_eq rfl hr (de_var 0) de_str) (dw_and1 (dt_val (de_var 5))))) (de_lst (da_cons de_bl da_nil)) (de_lst (da_cons de_bl (da_cons de_bl da_nil))))))))
theorem c_rains {P : Program} {w : World} {K : PySem.W.Frag} {mg : Str → Option Value} {base : Heap} {cls : Nat → Value} (T : Txt K mg cls)  {f : Addr} {fd : FuncData} (F : Fun K "rains" "rains" (top 23) f fd) (hm : mg "rains" = some (.ref f)) : FnC P w K mg base cls "rains" 2 1 m_rains :=
  fnC_of F sc_rains hm (F.binds fun _ _ _ _ _ _ us hl => match us, hl with | [_, _], _ => rfl) (b_rains T )
/-! remembered -/
def N_remembered : List Str := ["climate", "place", "rain"]
theorem sc_remembered : FnScope N_remembered ["climate", "place", "rain"] (defScope (top 24)) := ⟨rfl, rfl, rfl, by decide +kernel, rfl, by decide +kernel, by decide +kernel⟩
def f_remembered : SF := (sSeq (sIf (tV (eOp opEq (eVar 0) (eC (.str "days"))))
  (sRet (eAnd (eVar 2) (eOp opEq (eVar 1) (eC (.int 0)))))
  sNil)
  (sRet (eAnd (eVar 2) (eOp opEq (eVar 0) (eC (.str "rare"))))))
def m_remembered : List AU.It → M DD := runB 3 f_remembered
theorem b_remembered {P : Program} {w : World} {K : PySem.W.Frag} {mg : Str → Option Value} {base : Heap} {cls : Nat → Value} (T : Txt K mg cls)  {f : Addr} : BodyOk P w K mg base cls N_remembered "remembered" (top 24) f 0 f_remembered := by
  intro cdv A outer s H E B hr hK hc hT
  subst hK hc
  exact (dss_cons (ds_if (dt_eq rfl hr (de_var 0) de_str)
  (dss_one (ds_ret (de_and (de_var 2) (de_one (de_eq rfl hr (de_var 1) de_int)))))
  dss_nil)
  (dss_one (ds_ret (de_and (de_var 2) (de_one (de_eq rfl hr (de_var 0) de_str))))))
theorem c_remembered {P : Program} {w : World} {K : PySem.W.Frag} {mg : Str → Option Value} {base : Heap} {cls : Nat → Value} (T : Txt K mg cls)  {f : Addr} {fd : FuncData} (F : Fun K "remembered" "remembered" (top 24) f fd) (hm : mg "remembered" = some (.ref f)) : FnC P w K mg base cls "remembered" 3 1 m_remembered :=
  fnC_of F sc_remembered hm (F.binds fun _ _ _ _ _ _ us hl => match us, hl with | [_, _, _], _ => rfl) (b_remembered T )
/-! first_stand -/
def N_first_stand : List Str := ["n", "away"]
theorem sc_first_stand : FnScope N_first_stand ["n", "away"] (defScope (top 27)) := ⟨rfl, rfl, rfl, by decide +kernel, rfl, by decide +kernel, by decide +kernel⟩
def f_first_stand : SF := (sRet (eTup (aCons (eC (.int 0)) (aCons (eC (.int 0)) (aCons (eOp opSub (eVar 0) (eVar 1)) (aCons (eC (.bl false)) aNil))))))
def m_first_stand : List AU.It → M DD := runB 2 f_first_stand
theorem b_first_stand {P : Program} {w : World} {K : PySem.W.Frag} {mg : Str → Option Value} {base : Heap} {cls : Nat → Value} (T : Txt K mg cls)  {f : Addr} : BodyOk P w K mg base cls N_first_stand "first_stand" (top 27) f 0 f_first_stand := by
  intro cdv A outer s H E B hr hK hc hT
  subst hK hc
  exact (dss_one (ds_ret (de_tup (da_cons de_int (da_cons de_int (da_cons (de_sub (de_var 0) (de_var 1)) (da_cons de_bl da_nil)))))))
theorem c_first_stand {P : Program} {w : World} {K : PySem.W.Frag} {mg : Str → Option Value} {base : Heap} {cls : Nat → Value} (T : Txt K mg cls)  {f : Addr} {fd : FuncData} (F : Fun K "first_stand" "first_stand" (top 27) f fd) (hm : mg "first_stand" = some (.ref f)) : FnC P w K mg base cls "first_stand" 2 1 m_first_stand :=
  fnC_of F sc_first_stand hm (F.binds fun _ _ _ _ _ _ us hl => match us, hl with | [_, _], _ => rfl) (b_first_stand T )
/-! _law_source -/
def N__law_source : List Str := ["_law_script", "_law_k", "_law_cell"]
theorem sc__law_source : FnScope N__law_source ["_law_script", "_law_k"] (defScope (top 37)) := ⟨rfl, rfl, rfl, by decide +kernel, rfl, by decide +kernel, by decide +kernel⟩
def f__law_source : SF := (sSeq (sAsg (eIf (tV (eOp opLt (eVar 1) (eScLen 0))) (eB bAbs (aCons (eB bInt (aCons (eScAt 0 (eVar 1)) aNil)) aNil)) (eOp opAdd (eOp opMul (eC (.int 113)) (eVar 1)) (eC (.int 67)))) (gN 2))
  (sRetNew (nLst (aCons (eIf (tV (eOp opGt (eVar 2) (eOp opPow (eC (.int 10)) (eC (.int 17))))) (eVar 2) (eC (.int 0))) (aCons (eOp opMod (eB bInt (aCons (eOp opAdd (eOp opAdd (eOp opMul (eVar 2) (eC (.int 16807))) (eOp opMul (eC (.int 10067)) (eVar 1))) (eC (.int 89))) aNil)) (eC (.int 2147483237))) aNil)))))
def m__law_source : List AU.It → M (List DD) := runN 3 f__law_source
theorem b__law_source {P : Program} {w : World} {K : PySem.W.Frag} {mg : Str → Option Value} {base : Heap} {cls : Nat → Value} (T : Txt K mg cls)  {f : Addr} : BodyOk P w K mg base cls N__law_source "_law_source" (top 37) f 0 f__law_source := by
  intro cdv A outer s H E B hr hK hc hT
  subst hK hc
  exact (dss_cons (ds_asg (de_if (dt_lt (de_var 1) (de_scLen 0 rfl T.f_len)) (de_abs T.f_abs (da_cons (de_int1 T.f_int (da_cons (de_scAt 0 rfl (de_var 1)) da_nil)) da_nil)) (de_add rfl (de_mul rfl de_int (de_var 1)) de_int)) (dg_name 2 sc__law_source.nd))
  (dss_one (ds_retNew (dn_lst (da_cons (de_if (dt_gt (de_var 2) (de_pow de_int de_int)) (de_var 2) de_int) (da_cons (de_mod (de_int1 T.f_int (da_cons (de_add rfl (de_add rfl (de_mul rfl (de_var 2) de_int) (de_mul rfl de_int (de_var 1))) de_int) da_nil)) de_int) da_nil))))))
theorem c__law_source {P : Program} {w : World} {K : PySem.W.Frag} {mg : Str → Option Value} {base : Heap} {cls : Nat → Value} (T : Txt K mg cls)  {f : Addr} {fd : FuncData} (F : Fun K "_law_source" "_law_source" (top 37) f fd) (hm : mg "_law_source" = some (.ref f)) : FnN P w K mg base cls "_law_source" 2 1 m__law_source :=
  fnN_of F sc__law_source hm (F.binds fun _ _ _ _ _ _ us hl => match us, hl with | [_, _], _ => rfl) (b__law_source T )
/-! _law_draw -/
def N__law_draw : List Str := ["_law_source_here", "_law_many", "_law_wide", "_law_rest"]
theorem sc__law_draw : FnScope N__law_draw ["_law_source_here", "_law_many"] (defScope (top 38)) := ⟨rfl, rfl, rfl, by decide +kernel, rfl, by decide +kernel, by decide +kernel⟩
def f__law_draw : SF := (sSeq (sIf (tV (eOp opGt (eSrc 0 false) (eC (.int 0))))
  (sSeq (sAsg (eOp opMod (eB bInt (aCons (eSrc 0 false) aNil)) (eVar 1)) (gN 3))
  (sSeq (sSrcPut 0 false (eOp opDiv (eSrc 0 false) (eVar 1)))
  (sRet (eVar 3))))
  sNil)
  (sSeq (sSrcPut 0 true (eOp opMod (eB bInt (aCons (eOp opAdd (eOp opMul (eSrc 0 true) (eC (.int 48271))) (eC (.int 83))) aNil)) (eC (.int 2147483237))))
  (sSeq (sAsg (eOp opMod (eB bInt (aCons (eOp opMul (eSrc 0 true) (eOp opAdd (eOp opDiv (eSrc 0 true) (eC (.int 41))) (eC (.int 26)))) aNil)) (eC (.int 2147483179))) (gN 2))
  (sRet (eOp opMod (eB bInt (aCons (eOp opDiv (eVar 2) (eC (.int 32))) aNil)) (eVar 1))))))
def m__law_draw : List AU.It → M DD := runB 4 f__law_draw
theorem b__law_draw {P : Program} {w : World} {K : PySem.W.Frag} {mg : Str → Option Value} {base : Heap} {cls : Nat → Value} (T : Txt K mg cls)  {f : Addr} : BodyOk P w K mg base cls N__law_draw "_law_draw" (top 38) f 0 f__law_draw := by
  intro cdv A outer s H E B hr hK hc hT
  subst hK hc
  exact (dss_cons (ds_if (dt_gt (de_src 0 false rfl) de_int)
  (dss_cons (ds_asg (de_mod (de_int1 T.f_int (da_cons (de_src 0 false rfl) da_nil)) (de_var 1)) (dg_name 3 sc__law_draw.nd))
  (dss_cons (ds_srcPut 0 false rfl (de_div (de_src 0 false rfl) (de_var 1)))
  (dss_one (ds_ret (de_var 3)))))
  dss_nil)
  (dss_cons (ds_srcPut 0 true rfl (de_mod (de_int1 T.f_int (da_cons (de_add rfl (de_mul rfl (de_src 0 true rfl) de_int) de_int) da_nil)) de_int))
  (dss_cons (ds_asg (de_mod (de_int1 T.f_int (da_cons (de_mul rfl (de_src 0 true rfl) (de_add rfl (de_div (de_src 0 true rfl) de_int) de_int)) da_nil)) de_int) (dg_name 2 sc__law_draw.nd))
  (dss_one (ds_ret (de_mod (de_int1 T.f_int (da_cons (de_div (de_var 2) de_int) da_nil)) (de_var 1)))))))
theorem c__law_draw {P : Program} {w : World} {K : PySem.W.Frag} {mg : Str → Option Value} {base : Heap} {cls : Nat → Value} (T : Txt K mg cls)  {f : Addr} {fd : FuncData} (F : Fun K "_law_draw" "_law_draw" (top 38) f fd) (hm : mg "_law_draw" = some (.ref f)) : FnC P w K mg base cls "_law_draw" 2 1 m__law_draw :=
  fnC_of F sc__law_draw hm (F.binds fun _ _ _ _ _ _ us hl => match us, hl with | [_, _], _ => rfl) (b__law_draw T )
/-! _law_deed -/
def N__law_deed : List Str := ["_law_book_here", "_law_mood", "_law_here", "_law_rain"]
theorem sc__law_deed : FnScope N__law_deed ["_law_book_here", "_law_mood", "_law_here", "_law_rain"] (defScope (top 41)) := ⟨rfl, rfl, rfl, by decide +kernel, rfl, by decide +kernel, by decide +kernel⟩
def f__law_deed : SF := (sRet (eOp opIx (eOp opIx (eVar 0) (eVar 1)) (eOp opAdd (eIf (tV (eVar 3)) (eC (.int 3)) (eC (.int 0))) (eIf (tV (eOp opLt (eVar 2) (eC (.int 2)))) (eVar 2) (eC (.int 2))))))
def m__law_deed : List AU.It → M DD := runB 4 f__law_deed
theorem b__law_deed {P : Program} {w : World} {K : PySem.W.Frag} {mg : Str → Option Value} {base : Heap} {cls : Nat → Value} (T : Txt K mg cls)  {f : Addr} : BodyOk P w K mg base cls N__law_deed "_law_deed" (top 41) f 0 f__law_deed := by
  intro cdv A outer s H E B hr hK hc hT
  subst hK hc
  exact (dss_one (ds_ret (de_ix rfl hr (de_ix rfl hr (de_var 0) (de_var 1)) (de_add rfl (de_if (dt_val (de_var 3)) de_int de_int) (de_if (dt_lt (de_var 2) de_int) (de_var 2) de_int)))))
theorem c__law_deed {P : Program} {w : World} {K : PySem.W.Frag} {mg : Str → Option Value} {base : Heap} {cls : Nat → Value} (T : Txt K mg cls)  {f : Addr} {fd : FuncData} (F : Fun K "_law_deed" "_law_deed" (top 41) f fd) (hm : mg "_law_deed" = some (.ref f)) : FnC P w K mg base cls "_law_deed" 4 1 m__law_deed :=
  fnC_of F sc__law_deed hm (F.binds fun _ _ _ _ _ _ us hl => match us, hl with | [_, _, _, _], _ => rfl) (b__law_deed T )
/-! is_entry -/
def N_is_entry : List Str := ["value", "moods", "look"]
theorem sc_is_entry : FnScope N_is_entry ["value", "moods", "look"] (defScope (top 12)) := ⟨rfl, rfl, rfl, by decide +kernel, rfl, by decide +kernel, by decide +kernel⟩
def f_is_entry : SF := (sSeq (sIf (tOrD (tNotD (tV (eB bIsi (aCons (eVar 0) (aCons (eC (.raw (.ty "tuple"))) aNil))))) (tOrD (tV (eOp opNe (eB bLen (aCons (eVar 0) aNil)) (eC (.int 2)))) (tOrD (tNotD (tV (eB bIsi (aCons (eOp opIx (eVar 0) (eC (.int 0))) (aCons (eC (.raw (.ty "str"))) aNil))))) (tV (eOp opNotIn (eOp opIx (eVar 0) (eC (.int 0))) (eC (.tup [.str "leave", .str "take"])))))))
  (sRet (eC (.bl false)))
  sNil)
  (sSeq (sIf (tAndD (tV (eOp opEq (eOp opMod (eVar 2) (eC (.int 3))) (eC (.int 0)))) (tV (eOp opEq (eOp opIx (eVar 0) (eC (.int 0))) (eC (.str "take")))))
  (sRet (eC (.bl false)))
  sNil)
  (sRet (eCall m_is_from (iCons (eOp opIx (eVar 0) (eC (.int 1))) (iCons (eC (.int 0)) (iCons (eOp opSub (eVar 1) (eC (.int 1))) iNil)))))))
def m_is_entry : List AU.It → M DD := runB 3 f_is_entry
theorem b_is_entry {P : Program} {w : World} {K : PySem.W.Frag} {mg : Str → Option Value} {base : Heap} {cls : Nat → Value} (T : Txt K mg cls) (h_is_from : FnC P w K mg base cls "is_from" 3 1 m_is_from) {f : Addr} : BodyOk P w K mg base cls N_is_entry "is_entry" (top 12) f 1 f_is_entry := by
  intro cdv A outer s H E B hr hK hc hT
  subst hK hc
  exact (dss_cons (ds_if (dw_pt (dw_or (dt_not (dt_val (de_isi rfl T.f_isinstance (da_cons (de_var 0) (da_cons (de_ty T.f_tuple) da_nil))))) (dw_or (dt_ne rfl hr (de_len rfl T.f_len (da_cons (de_var 0) da_nil)) de_int) (dw_or (dt_not (dt_val (de_isi rfl T.f_isinstance (da_cons (de_ix rfl hr (de_var 0) de_int) (da_cons (de_ty T.f_str) da_nil))))) (dw_or1 (dt_notin rfl hr (de_ix rfl hr (de_var 0) de_int) (de_globT T.g_DEEDS)))))))
  (dss_one (ds_ret de_bl))
  dss_nil)
  (dss_cons (ds_if (dw_pt (dw_and (dt_eq rfl hr (de_mod (de_var 2) de_int) de_int) (dw_and1 (dt_eq rfl hr (de_ix rfl hr (de_var 0) de_int) de_str))))
  (dss_one (ds_ret de_bl))
  dss_nil)
  (dss_one (ds_ret (de_call h_is_from hr (by decide) rfl (takes_of rfl rfl rfl rfl) (di_cons (de_ix rfl hr (de_var 0) de_int) (di_cons de_int (di_cons (de_sub (de_var 1) de_int) di_nil))))))))
theorem c_is_entry {P : Program} {w : World} {K : PySem.W.Frag} {mg : Str → Option Value} {base : Heap} {cls : Nat → Value} (T : Txt K mg cls) (h_is_from : FnC P w K mg base cls "is_from" 3 1 m_is_from) {f : Addr} {fd : FuncData} (F : Fun K "is_entry" "is_entry" (top 12) f fd) (hm : mg "is_entry" = some (.ref f)) : FnC P w K mg base cls "is_entry" 3 2 m_is_entry :=
  fnC_of F sc_is_entry hm (F.binds fun _ _ _ _ _ _ us hl => match us, hl with | [_, _, _], _ => rfl) (b_is_entry T h_is_from)
/-! need_number -/
def N_need_number : List Str := ["value", "low", "high"]
theorem sc_need_number : FnScope N_need_number ["value", "low", "high"] (defScope (top 18)) := ⟨rfl, rfl, rfl, by decide +kernel, rfl, by decide +kernel, by decide +kernel⟩
def f_need_number : SF := (sIf (tNotD (tV (eCall m_is_from (iCons (eVar 0) (iCons (eVar 1) (iCons (eVar 2) iNil))))))
  (sRaise kx_InvalidNumber)
  sNil)
def m_need_number : List AU.It → M DD := runB 3 f_need_number
theorem b_need_number {P : Program} {w : World} {K : PySem.W.Frag} {mg : Str → Option Value} {base : Heap} {cls : Nat → Value} (T : Txt K mg cls) (h_is_from : FnC P w K mg base cls "is_from" 3 1 m_is_from) {f : Addr} : BodyOk P w K mg base cls N_need_number "need_number" (top 18) f 1 f_need_number := by
  intro cdv A outer s H E B hr hK hc hT
  subst hK hc
  exact (dss_one (ds_if (dt_not (dt_val (de_call h_is_from hr (by decide) rfl (takes_of rfl rfl rfl rfl) (di_cons (de_var 0) (di_cons (de_var 1) (di_cons (de_var 2) di_nil))))))
  (dss_one (ds_raise rfl (takes_of rfl rfl rfl rfl) T.x_InvalidNumber))
  dss_nil))
theorem c_need_number {P : Program} {w : World} {K : PySem.W.Frag} {mg : Str → Option Value} {base : Heap} {cls : Nat → Value} (T : Txt K mg cls) (h_is_from : FnC P w K mg base cls "is_from" 3 1 m_is_from) {f : Addr} {fd : FuncData} (F : Fun K "need_number" "need_number" (top 18) f fd) (hm : mg "need_number" = some (.ref f)) : FnC P w K mg base cls "need_number" 3 2 m_need_number :=
  fnC_of F sc_need_number hm (F.binds fun _ _ _ _ _ _ us hl => match us, hl with | [_, _, _], _ => rfl) (b_need_number T h_is_from)
/-! walk_of -/
def N_walk_of : List Str := ["book", "n", "standing", "rain", "gone", "place", "mood", "here", "deed", "then"]
theorem sc_walk_of : FnScope N_walk_of ["book", "n", "standing", "rain"] (defScope (top 21)) := ⟨rfl, rfl, rfl, by decide +kernel, rfl, by decide +kernel, by decide +kernel⟩
def f_walk_of : SF := (sSeq (sAsg (eVar 2) (gT 3 (gsC (gN 5) (gsC (gN 6) (gsC (gN 7) gsN)))))
  (sSeq (sAsg (eOp opIx (eOp opIx (eVar 0) (eVar 6)) (eCall m_look_of (iCons (eVar 3) (iCons (eVar 7) iNil)))) (gT 2 (gsC (gN 8) (gsC (gN 9) gsN))))
  (sSeq (sAsg (eB bInt (aCons (eOp opEq (eVar 8) (eC (.str "take"))) aNil)) (gN 4))
  (sRet (eTup (aCons (eOp opEq (eVar 4) (eC (.int 1))) (aCons (eTup (aCons (eOp opSub (eC (.int 1)) (eVar 5)) (aCons (eVar 9) (aCons (eOp opAdd (eOp opSub (eVar 1) (eVar 7)) (eVar 4)) aNil)))) aNil)))))))
def m_walk_of : List AU.It → M DD := runB 10 f_walk_of
theorem b_walk_of {P : Program} {w : World} {K : PySem.W.Frag} {mg : Str → Option Value} {base : Heap} {cls : Nat → Value} (T : Txt K mg cls) (h_look_of : FnC P w K mg base cls "look_of" 2 1 m_look_of) {f : Addr} : BodyOk P w K mg base cls N_walk_of "walk_of" (top 21) f 1 f_walk_of := by
  intro cdv A outer s H E B hr hK hc hT
  subst hK hc
  exact (dss_cons (ds_asg (de_var 2) (dg_tup rfl rfl (dgs_cons (dg_name 5 sc_walk_of.nd) (dgs_cons (dg_name 6 sc_walk_of.nd) (dgs_cons (dg_name 7 sc_walk_of.nd) dgs_nil)))))
  (dss_cons (ds_asg (de_ix rfl hr (de_ix rfl hr (de_var 0) (de_var 6)) (de_call h_look_of hr (by decide) rfl (takes_of rfl rfl rfl rfl) (di_cons (de_var 3) (di_cons (de_var 7) di_nil)))) (dg_tup rfl rfl (dgs_cons (dg_name 8 sc_walk_of.nd) (dgs_cons (dg_name 9 sc_walk_of.nd) dgs_nil))))
  (dss_cons (ds_asg (de_int1 T.f_int (da_cons (de_eq rfl hr (de_var 8) de_str) da_nil)) (dg_name 4 sc_walk_of.nd))
  (dss_one (ds_ret (de_tup (da_cons (de_eq rfl hr (de_var 4) de_int) (da_cons (de_tup (da_cons (de_sub de_int (de_var 5)) (da_cons (de_var 9) (da_cons (de_add rfl (de_sub (de_var 1) (de_var 7)) (de_var 4)) da_nil)))) da_nil))))))))
theorem c_walk_of {P : Program} {w : World} {K : PySem.W.Frag} {mg : Str → Option Value} {base : Heap} {cls : Nat → Value} (T : Txt K mg cls) (h_look_of : FnC P w K mg base cls "look_of" 2 1 m_look_of) {f : Addr} {fd : FuncData} (F : Fun K "walk_of" "walk_of" (top 21) f fd) (hm : mg "walk_of" = some (.ref f)) : FnC P w K mg base cls "walk_of" 4 2 m_walk_of :=
  fnC_of F sc_walk_of hm (F.binds fun _ _ _ _ _ _ us hl => match us, hl with | [_, _, _, _], _ => rfl) (b_walk_of T h_look_of)
/-! is_stand -/
def N_is_stand : List Str := ["book", "n", "value"]
theorem sc_is_stand : FnScope N_is_stand ["book", "n", "value"] (defScope (top 31)) := ⟨rfl, rfl, rfl, by decide +kernel, rfl, by decide +kernel, by decide +kernel⟩
def f_is_stand : SF := (sSeq (sIf (tOrD (tNotD (tV (eB bIsi (aCons (eVar 2) (aCons (eC (.raw (.ty "tuple"))) aNil))))) (tOrD (tV (eOp opNe (eB bLen (aCons (eVar 2) aNil)) (eC (.int 4)))) (tNotD (tV (eB bIsi (aCons (eOp opIx (eVar 2) (eC (.int 3))) (aCons (eC (.raw (.ty "bool"))) aNil)))))))
  (sRet (eC (.bl false)))
  sNil)
  (sRet (eAnd (eCall m_is_from (iCons (eOp opIx (eVar 2) (eC (.int 0))) (iCons (eC (.int 0)) (iCons (eC (.int 1)) iNil)))) (eAnd (eCall m_is_from (iCons (eOp opIx (eVar 2) (eC (.int 1))) (iCons (eC (.int 0)) (iCons (eOp opSub (eB bLen (aCons (eVar 0) aNil)) (eC (.int 1))) iNil)))) (eCall m_is_from (iCons (eOp opIx (eVar 2) (eC (.int 2))) (iCons (eC (.int 0)) (iCons (eVar 1) iNil))))))))
def m_is_stand : List AU.It → M DD := runB 3 f_is_stand
theorem b_is_stand {P : Program} {w : World} {K : PySem.W.Frag} {mg : Str → Option Value} {base : Heap} {cls : Nat → Value} (T : Txt K mg cls) (h_is_from : FnC P w K mg base cls "is_from" 3 1 m_is_from) {f : Addr} : BodyOk P w K mg base cls N_is_stand "is_stand" (top 31) f 1 f_is_stand := by
  intro cdv A outer s H E B hr hK hc hT
  subst hK hc
  exact (dss_cons (ds_if (dw_pt (dw_or (dt_not (dt_val (de_isi rfl T.f_isinstance (da_cons (de_var 2) (da_cons (de_ty T.f_tuple) da_nil))))) (dw_or (dt_ne rfl hr (de_len rfl T.f_len (da_cons (de_var 2) da_nil)) de_int) (dw_or1 (dt_not (dt_val (de_isi rfl T.f_isinstance (da_cons (de_ix rfl hr (de_var 2) de_int) (da_cons (de_ty T.f_bool) da_nil)))))))))
  (dss_one (ds_ret de_bl))
  dss_nil)
  (dss_one (ds_ret (de_and (de_call h_is_from hr (by decide) rfl (takes_of rfl rfl rfl rfl) (di_cons (de_ix rfl hr (de_var 2) de_int) (di_cons de_int (di_cons de_int di_nil)))) (de_and (de_call h_is_from hr (by decide) rfl (takes_of rfl rfl rfl rfl) (di_cons (de_ix rfl hr (de_var 2) de_int) (di_cons de_int (di_cons (de_sub (de_len rfl T.f_len (da_cons (de_var 0) da_nil)) de_int) di_nil)))) (de_one (de_call h_is_from hr (by decide) rfl (takes_of rfl rfl rfl rfl) (di_cons (de_ix rfl hr (de_var 2) de_int) (di_cons de_int (di_cons (de_var 1) di_nil))))))))))
theorem c_is_stand {P : Program} {w : World} {K : PySem.W.Frag} {mg : Str → Option Value} {base : Heap} {cls : Nat → Value} (T : Txt K mg cls) (h_is_from : FnC P w K mg base cls "is_from" 3 1 m_is_from) {f : Addr} {fd : FuncData} (F : Fun K "is_stand" "is_stand" (top 31) f fd) (hm : mg "is_stand" = some (.ref f)) : FnC P w K mg base cls "is_stand" 3 2 m_is_stand :=
  fnC_of F sc_is_stand hm (F.binds fun _ _ _ _ _ _ us hl => match us, hl with | [_, _, _], _ => rfl) (b_is_stand T h_is_from)
/-! _law_choice -/
def N__law_choice : List Str := ["_law_source_here", "_law_some"]
theorem sc__law_choice : FnScope N__law_choice ["_law_source_here", "_law_some"] (defScope (top 39)) := ⟨rfl, rfl, rfl, by decide +kernel, rfl, by decide +kernel, by decide +kernel⟩
def f__law_choice : SF := (sRet (eOp opIx (eVar 1) (eCall m__law_draw (iSrc 0 (iCons (eB bLen (aCons (eVar 1) aNil)) iNil)))))
def m__law_choice : List AU.It → M DD := runB 2 f__law_choice
theorem b__law_choice {P : Program} {w : World} {K : PySem.W.Frag} {mg : Str → Option Value} {base : Heap} {cls : Nat → Value} (T : Txt K mg cls) (h__law_draw : FnC P w K mg base cls "_law_draw" 2 1 m__law_draw) {f : Addr} : BodyOk P w K mg base cls N__law_choice "_law_choice" (top 39) f 1 f__law_choice := by
  intro cdv A outer s H E B hr hK hc hT
  subst hK hc
  exact (dss_one (ds_ret (de_ix rfl hr (de_var 1) (de_call h__law_draw hr (by decide) rfl (takes_of rfl rfl rfl rfl) (di_src 0 (di_cons (de_len rfl T.f_len (da_cons (de_var 1) da_nil)) di_nil))))))
theorem c__law_choice {P : Program} {w : World} {K : PySem.W.Frag} {mg : Str → Option Value} {base : Heap} {cls : Nat → Value} (T : Txt K mg cls) (h__law_draw : FnC P w K mg base cls "_law_draw" 2 1 m__law_draw) {f : Addr} {fd : FuncData} (F : Fun K "_law_choice" "_law_choice" (top 39) f fd) (hm : mg "_law_choice" = some (.ref f)) : FnC P w K mg base cls "_law_choice" 2 2 m__law_choice :=
  fnC_of F sc__law_choice hm (F.binds fun _ _ _ _ _ _ us hl => match us, hl with | [_, _], _ => rfl) (b__law_choice T h__law_draw)
/-! _law_next -/
def N__law_next : List Str := ["_law_book_here", "_law_climate", "_law_n", "_law_stand", "_law_found", "_law_rain", "_law_place", "_law_mood", "_law_here", "_law_last", "_law_there", "_law_kept", "_law_deed_here", "_law_then"]
theorem sc__law_next : FnScope N__law_next ["_law_book_here", "_law_climate", "_law_n", "_law_stand"] (defScope (top 42)) := ⟨rfl, rfl, rfl, by decide +kernel, rfl, by decide +kernel, by decide +kernel⟩
def f__law_next_b1 : SF := (sSeq (sIf (tOrD (tAndD (tV (eOp opEq (eVar 1) (eC (.str "rare")))) (tAndD (tV (eVar 9)) (tV (eVar 5)))) (tAndD (tV (eOp opEq (eVar 1) (eC (.str "days")))) (tAndD (tV (eOp opEq (eVar 6) (eC (.int 1)))) (tV (eOp opNe (eVar 5) (eVar 9))))))
  sCont
  sNil)
  (sSeq (sAsg (eCall m__law_deed (iCons (eVar 0) (iCons (eVar 7) (iCons (eVar 8) (iCons (eVar 5) iNil))))) (gT 2 (gsC (gN 12) (gsC (gN 13) gsN))))
  (sSeq (sAsg (eOp opAdd (eOp opSub (eVar 2) (eVar 8)) (eIf (tV (eOp opEq (eVar 12) (eC (.str "take")))) (eC (.int 1)) (eC (.int 0)))) (gN 10))
  (sSeq (sAsg (eIf (tOrD (tV (eOp opEq (eVar 1) (eC (.str "rare")))) (tAndD (tV (eOp opEq (eVar 1) (eC (.str "days")))) (tV (eOp opEq (eVar 6) (eC (.int 0)))))) (eVar 5) (eC (.bl false))) (gN 11))
  (sApp 4 (eTup (aCons (eVar 5) (aCons (eAnd (eVar 5) (eOp opEq (eVar 12) (eC (.str "leave")))) (aCons (eTup (aCons (eOp opSub (eC (.int 1)) (eVar 6)) (aCons (eVar 13) (aCons (eVar 10) (aCons (eVar 11) aNil))))) aNil)))))))))
def f__law_next : SF := (sSeq (sAsg (eVar 3) (gT 4 (gsC (gN 6) (gsC (gN 7) (gsC (gN 8) (gsC (gN 9) gsN))))))
  (sSeq (sSetL 4 (nLst aNil))
  (sSeq (sFor (jSeq (eTup (aCons (eC (.bl false)) (aCons (eC (.bl true)) aNil)))) (gN 5)
  (f__law_next_b1))
  (sFrz 4 (sRet (eVar 4))))))
def m__law_next : List AU.It → M DD := runB 14 f__law_next
theorem b__law_next {P : Program} {w : World} {K : PySem.W.Frag} {mg : Str → Option Value} {base : Heap} {cls : Nat → Value} (T : Txt K mg cls) (h__law_deed : FnC P w K mg base cls "_law_deed" 4 1 m__law_deed) {f : Addr} : BodyOk P w K mg base cls N__law_next "_law_next" (top 42) f 1 f__law_next := by
  intro cdv A outer s H E B hr hK hc hT
  subst hK hc
  exact (dss_cons (ds_asg (de_var 3) (dg_tup rfl rfl (dgs_cons (dg_name 6 sc__law_next.nd) (dgs_cons (dg_name 7 sc__law_next.nd) (dgs_cons (dg_name 8 sc__law_next.nd) (dgs_cons (dg_name 9 sc__law_next.nd) dgs_nil))))))
  (dss_cons (ds_setL 4 sc__law_next.nd (dn_lst da_nil))
  (dss_cons (ds_for rfl (passes_of rfl) rfl (dj_seq rfl (de_tup (da_cons de_bl (da_cons de_bl da_nil)))) (dg_name 5 sc__law_next.nd)
  (dss_cons (ds_if (dw_pt (dw_or (dw_pt (dw_and (dt_eq rfl hr (de_var 1) de_str) (dw_and (dt_val (de_var 9)) (dw_and1 (dt_val (de_var 5)))))) (dw_or1 (dw_pt (dw_and (dt_eq rfl hr (de_var 1) de_str) (dw_and (dt_eq rfl hr (de_var 6) de_int) (dw_and1 (dt_ne rfl hr (de_var 5) (de_var 9)))))))))
  (dss_one ds_cont)
  dss_nil)
  (dss_cons (ds_asg (de_call h__law_deed hr (by decide) rfl (takes_of rfl rfl rfl rfl) (di_cons (de_var 0) (di_cons (de_var 7) (di_cons (de_var 8) (di_cons (de_var 5) di_nil))))) (dg_tup rfl rfl (dgs_cons (dg_name 12 sc__law_next.nd) (dgs_cons (dg_name 13 sc__law_next.nd) dgs_nil))))
  (dss_cons (ds_asg (de_add rfl (de_sub (de_var 2) (de_var 8)) (de_if (dt_eq rfl hr (de_var 12) de_str) de_int de_int)) (dg_name 10 sc__law_next.nd))
  (dss_cons (ds_asg (de_if (dw_pt (dw_or (dt_eq rfl hr (de_var 1) de_str) (dw_or1 (dw_pt (dw_and (dt_eq rfl hr (de_var 1) de_str) (dw_and1 (dt_eq rfl hr (de_var 6) de_int))))))) (de_var 5) de_bl) (dg_name 11 sc__law_next.nd))
  (dss_one (ds_app 4 (de_tup (da_cons (de_var 5) (da_cons (de_and (de_var 5) (de_one (de_eq rfl hr (de_var 12) de_str))) (da_cons (de_tup (da_cons (de_sub de_int (de_var 6)) (da_cons (de_var 13) (da_cons (de_var 10) (da_cons (de_var 11) da_nil))))) da_nil)))))))))))
  (dss_one (ds_frz 4 (ds_ret (de_var 4)))))))
theorem c__law_next {P : Program} {w : World} {K : PySem.W.Frag} {mg : Str → Option Value} {base : Heap} {cls : Nat → Value} (T : Txt K mg cls) (h__law_deed : FnC P w K mg base cls "_law_deed" 4 1 m__law_deed) {f : Addr} {fd : FuncData} (F : Fun K "_law_next" "_law_next" (top 42) f fd) (hm : mg "_law_next" = some (.ref f)) : FnC P w K mg base cls "_law_next" 4 2 m__law_next :=
  fnC_of F sc__law_next hm (F.binds fun _ _ _ _ _ _ us hl => match us, hl with | [_, _, _, _], _ => rfl) (b__law_next T h__law_deed)
/-! _law_bent -/
def N__law_bent : List Str := ["_law_source_here", "_law_book_here", "_law_n", "_law_value", "_law_at", "_law_more"]
theorem sc__law_bent : FnScope N__law_bent ["_law_source_here", "_law_book_here", "_law_n", "_law_value"] (defScope (top 46)) := ⟨rfl, rfl, rfl, by decide +kernel, rfl, by decide +kernel, by decide +kernel⟩
def f__law_bent : SF := (sSeq (sAsg (eCall m__law_draw (iSrc 0 (iCons (eB bLen (aCons (eVar 3) aNil)) iNil))) (gN 4))
  (sSeq (sIf (tV (eOp opEq (eCall m__law_draw (iSrc 0 (iCons (eC (.int 2)) iNil))) (eC (.int 0))))
  (sRet (eOp opAdd (eSl (eVar 3) oNo (oSome (eVar 4))) (eSl (eVar 3) (oSome (eOp opAdd (eVar 4) (eC (.int 1)))) oNo)))
  sNil)
  (sSeq (sAsg (eTup (aCons (eCall m__law_draw (iSrc 0 (iCons (eC (.int 2)) iNil))) (aCons (eCall m__law_draw (iSrc 0 (iCons (eB bLen (aCons (eVar 1) aNil)) iNil))) (aCons (eCall m__law_draw (iSrc 0 (iCons (eOp opAdd (eVar 2) (eC (.int 1))) iNil))) (aCons (eOp opEq (eCall m__law_draw (iSrc 0 (iCons (eC (.int 2)) iNil))) (eC (.int 1))) aNil))))) (gN 5))
  (sRet (eB bTuple (aCons (eSrtSet (aCons (eOp opAdd (eVar 3) (eTup (aCons (eVar 5) aNil))) aNil)) aNil))))))
def m__law_bent : List AU.It → M DD := runB 6 f__law_bent
theorem b__law_bent {P : Program} {w : World} {K : PySem.W.Frag} {mg : Str → Option Value} {base : Heap} {cls : Nat → Value} (T : Txt K mg cls) (h__law_draw : FnC P w K mg base cls "_law_draw" 2 1 m__law_draw) {f : Addr} : BodyOk P w K mg base cls N__law_bent "_law_bent" (top 46) f 1 f__law_bent := by
  intro cdv A outer s H E B hr hK hc hT
  subst hK hc
  exact (dss_cons (ds_asg (de_call h__law_draw hr (by decide) rfl (takes_of rfl rfl rfl rfl) (di_src 0 (di_cons (de_len rfl T.f_len (da_cons (de_var 3) da_nil)) di_nil))) (dg_name 4 sc__law_bent.nd))
  (dss_cons (ds_if (dt_eq rfl hr (de_call h__law_draw hr (by decide) rfl (takes_of rfl rfl rfl rfl) (di_src 0 (di_cons de_int di_nil))) de_int)
  (dss_one (ds_ret (de_add rfl (de_slice rfl (de_var 3) do_no (do_some (de_var 4))) (de_slice rfl (de_var 3) (do_some (de_add rfl (de_var 4) de_int)) do_no))))
  dss_nil)
  (dss_cons (ds_asg (de_tup (da_cons (de_call h__law_draw hr (by decide) rfl (takes_of rfl rfl rfl rfl) (di_src 0 (di_cons de_int di_nil))) (da_cons (de_call h__law_draw hr (by decide) rfl (takes_of rfl rfl rfl rfl) (di_src 0 (di_cons (de_len rfl T.f_len (da_cons (de_var 1) da_nil)) di_nil))) (da_cons (de_call h__law_draw hr (by decide) rfl (takes_of rfl rfl rfl rfl) (di_src 0 (di_cons (de_add rfl (de_var 2) de_int) di_nil))) (da_cons (de_eq rfl hr (de_call h__law_draw hr (by decide) rfl (takes_of rfl rfl rfl rfl) (di_src 0 (di_cons de_int di_nil))) de_int) da_nil))))) (dg_name 5 sc__law_bent.nd))
  (dss_one (ds_ret (de_tuple rfl T.f_tuple (da_cons (de_srtSet rfl rfl hr T.f_sorted T.f_set (da_cons (de_add rfl (de_var 3) (de_tup (da_cons (de_var 5) da_nil))) da_nil)) da_nil)))))))
theorem c__law_bent {P : Program} {w : World} {K : PySem.W.Frag} {mg : Str → Option Value} {base : Heap} {cls : Nat → Value} (T : Txt K mg cls) (h__law_draw : FnC P w K mg base cls "_law_draw" 2 1 m__law_draw) {f : Addr} {fd : FuncData} (F : Fun K "_law_bent" "_law_bent" (top 46) f fd) (hm : mg "_law_bent" = some (.ref f)) : FnC P w K mg base cls "_law_bent" 4 2 m__law_bent :=
  fnC_of F sc__law_bent hm (F.binds fun _ _ _ _ _ _ us hl => match us, hl with | [_, _, _, _], _ => rfl) (b__law_bent T h__law_draw)
/-! is_mood -/
def N_is_mood : List Str := ["value", "moods", "look", "entry"]
theorem sc_is_mood : FnScope N_is_mood ["value", "moods"] (defScope (top 13)) := ⟨rfl, rfl, rfl, by decide +kernel, rfl, by decide +kernel, by decide +kernel⟩
def f_is_mood : SF := (sSeq (sIf (tOrD (tNotD (tV (eB bIsi (aCons (eVar 0) (aCons (eC (.raw (.ty "tuple"))) aNil))))) (tV (eOp opNe (eB bLen (aCons (eVar 0) aNil)) (eC (.int 6)))))
  (sRet (eC (.bl false)))
  sNil)
  (sRet (eB bAll (aCons (eLc [2, 3] (jEnum (aCons (eVar 0) aNil)) (gT 2 (gsC (gN 2) (gsC (gN 3) gsN))) tYesD (eCall m_is_entry (iCons (eVar 3) (iCons (eVar 1) (iCons (eVar 2) iNil))))) aNil))))
def m_is_mood : List AU.It → M DD := runB 4 f_is_mood
theorem b_is_mood {P : Program} {w : World} {K : PySem.W.Frag} {mg : Str → Option Value} {base : Heap} {cls : Nat → Value} (T : Txt K mg cls) (h_is_entry : FnC P w K mg base cls "is_entry" 3 2 m_is_entry) {f : Addr} : BodyOk P w K mg base cls N_is_mood "is_mood" (top 13) f 2 f_is_mood := by
  intro cdv A outer s H E B hr hK hc hT
  subst hK hc
  exact (dss_cons (ds_if (dw_pt (dw_or (dt_not (dt_val (de_isi rfl T.f_isinstance (da_cons (de_var 0) (da_cons (de_ty T.f_tuple) da_nil))))) (dw_or1 (dt_ne rfl hr (de_len rfl T.f_len (da_cons (de_var 0) da_nil)) de_int))))
  (dss_one (ds_ret de_bl))
  dss_nil)
  (dss_one (ds_ret (de_all rfl rfl T.f_all (da_cons (de_lc (own := [("look", 2), ("entry", 3)]) rfl sc_is_mood.nd (dj_enum rfl T.f_enumerate (da_cons (de_var 0) da_nil)) (blkOk_by (by kernel_rfl)) (fun _ _ _ _ _ => (dg_tup rfl rfl (dgs_cons (dg_name 2 sc_is_mood.nd) (dgs_cons (dg_name 3 sc_is_mood.nd) dgs_nil)))) (fun _ _ _ _ _ => dts_nil) (fun _ _ _ _ _ => (de_call h_is_entry hr (by decide) rfl takes_none5 (di_cons (de_var 3) (di_cons (de_var 1) (di_cons (de_var 2) di_nil)))))) da_nil)))))
theorem c_is_mood {P : Program} {w : World} {K : PySem.W.Frag} {mg : Str → Option Value} {base : Heap} {cls : Nat → Value} (T : Txt K mg cls) (h_is_entry : FnC P w K mg base cls "is_entry" 3 2 m_is_entry) {f : Addr} {fd : FuncData} (F : Fun K "is_mood" "is_mood" (top 13) f fd) (hm : mg "is_mood" = some (.ref f)) : FnC P w K mg base cls "is_mood" 2 3 m_is_mood :=
  fnC_of F sc_is_mood hm (F.binds fun _ _ _ _ _ _ us hl => match us, hl with | [_, _], _ => rfl) (b_is_mood T h_is_entry)
/-! step_of -/
def N_step_of : List Str := ["book", "climate", "n", "stand", "rain", "took", "standing"]
theorem sc_step_of : FnScope N_step_of ["book", "climate", "n", "stand", "rain"] (defScope (top 25)) := ⟨rfl, rfl, rfl, by decide +kernel, rfl, by decide +kernel, by decide +kernel⟩
def f_step_of : SF := (sSeq (sAsg (eCall m_walk_of (iCons (eVar 0) (iCons (eVar 2) (iCons (eSl (eVar 3) oNo (oSome (eC (.int 3)))) (iCons (eVar 4) iNil))))) (gT 2 (gsC (gN 5) (gsC (gN 6) gsN))))
  (sRet (eTup (aCons (eVar 5) (aCons (eOp opAdd (eVar 6) (eTup (aCons (eCall m_remembered (iCons (eVar 1) (iCons (eOp opIx (eVar 3) (eC (.int 0))) (iCons (eVar 4) iNil)))) aNil))) aNil)))))
def m_step_of : List AU.It → M DD := runB 7 f_step_of
theorem b_step_of {P : Program} {w : World} {K : PySem.W.Frag} {mg : Str → Option Value} {base : Heap} {cls : Nat → Value} (T : Txt K mg cls) (h_remembered : FnC P w K mg base cls "remembered" 3 1 m_remembered) (h_walk_of : FnC P w K mg base cls "walk_of" 4 2 m_walk_of) {f : Addr} : BodyOk P w K mg base cls N_step_of "step_of" (top 25) f 2 f_step_of := by
  intro cdv A outer s H E B hr hK hc hT
  subst hK hc
  exact (dss_cons (ds_asg (de_call h_walk_of hr (by decide) rfl (takes_of rfl rfl rfl rfl) (di_cons (de_var 0) (di_cons (de_var 2) (di_cons (de_slice rfl (de_var 3) do_no (do_some de_int)) (di_cons (de_var 4) di_nil))))) (dg_tup rfl rfl (dgs_cons (dg_name 5 sc_step_of.nd) (dgs_cons (dg_name 6 sc_step_of.nd) dgs_nil))))
  (dss_one (ds_ret (de_tup (da_cons (de_var 5) (da_cons (de_add rfl (de_var 6) (de_tup (da_cons (de_call h_remembered hr (by decide) rfl (takes_of rfl rfl rfl rfl) (di_cons (de_var 1) (di_cons (de_ix rfl hr (de_var 3) de_int) (di_cons (de_var 4) di_nil)))) da_nil))) da_nil))))))
theorem c_step_of {P : Program} {w : World} {K : PySem.W.Frag} {mg : Str → Option Value} {base : Heap} {cls : Nat → Value} (T : Txt K mg cls) (h_remembered : FnC P w K mg base cls "remembered" 3 1 m_remembered) (h_walk_of : FnC P w K mg base cls "walk_of" 4 2 m_walk_of) {f : Addr} {fd : FuncData} (F : Fun K "step_of" "step_of" (top 25) f fd) (hm : mg "step_of" = some (.ref f)) : FnC P w K mg base cls "step_of" 5 3 m_step_of :=
  fnC_of F sc_step_of hm (F.binds fun _ _ _ _ _ _ us hl => match us, hl with | [_, _, _, _, _], _ => rfl) (b_step_of T h_remembered h_walk_of)
/-! need_paper -/
def N_need_paper : List Str := ["book", "n", "value", "stand", "one", "other"]
theorem sc_need_paper : FnScope N_need_paper ["book", "n", "value"] (defScope (top 32)) := ⟨rfl, rfl, rfl, by decide +kernel, rfl, by decide +kernel, by decide +kernel⟩
def f_need_paper : SF := (sSeq (sIf (tOrD (tNotD (tV (eB bIsi (aCons (eVar 2) (aCons (eC (.raw (.ty "tuple"))) aNil))))) (tNotD (tV (eB bAll (aCons (eLc [3] (jSeq (eVar 2)) (gN 3) tYesD (eCall m_is_stand (iCons (eVar 0) (iCons (eVar 1) (iCons (eVar 3) iNil))))) aNil)))))
  (sRaise kx_InvalidPaper)
  sNil)
  (sIf (tNotD (tV (eB bAll (aCons (eLc [4, 5] (jZip (aCons (eVar 2) (aCons (eSl (eVar 2) (oSome (eC (.int 1))) oNo) aNil))) (gT 2 (gsC (gN 4) (gsC (gN 5) gsN))) tYesD (eOp opLtT (eVar 4) (eVar 5))) aNil))))
  (sRaise kx_InvalidPaper)
  sNil))
def m_need_paper : List AU.It → M DD := runB 6 f_need_paper
theorem b_need_paper {P : Program} {w : World} {K : PySem.W.Frag} {mg : Str → Option Value} {base : Heap} {cls : Nat → Value} (T : Txt K mg cls) (h_is_stand : FnC P w K mg base cls "is_stand" 3 2 m_is_stand) {f : Addr} : BodyOk P w K mg base cls N_need_paper "need_paper" (top 32) f 2 f_need_paper := by
  intro cdv A outer s H E B hr hK hc hT
  subst hK hc
  exact (dss_cons (ds_if (dw_pt (dw_or (dt_not (dt_val (de_isi rfl T.f_isinstance (da_cons (de_var 2) (da_cons (de_ty T.f_tuple) da_nil))))) (dw_or1 (dt_not (dt_val (de_all rfl rfl T.f_all (da_cons (de_lc (own := [("stand", 3)]) rfl sc_need_paper.nd (dj_seq rfl (de_var 2)) (blkOk_by (by kernel_rfl)) (fun _ _ _ _ _ => (dg_name 3 sc_need_paper.nd)) (fun _ _ _ _ _ => dts_nil) (fun _ _ _ _ _ => (de_call h_is_stand hr (by decide) rfl takes_none5 (di_cons (de_var 0) (di_cons (de_var 1) (di_cons (de_var 3) di_nil)))))) da_nil)))))))
  (dss_one (ds_raise rfl (takes_of rfl rfl rfl rfl) T.x_InvalidPaper))
  dss_nil)
  (dss_one (ds_if (dt_not (dt_val (de_all rfl rfl T.f_all (da_cons (de_lc (own := [("one", 4), ("other", 5)]) rfl sc_need_paper.nd (dj_zip rfl T.f_zip (da_cons (de_var 2) (da_cons (de_slice rfl (de_var 2) (do_some de_int) do_no) da_nil))) (blkOk_by (by kernel_rfl)) (fun _ _ _ _ _ => (dg_tup rfl rfl (dgs_cons (dg_name 4 sc_need_paper.nd) (dgs_cons (dg_name 5 sc_need_paper.nd) dgs_nil)))) (fun _ _ _ _ _ => dts_nil) (fun _ _ _ _ _ => (de_ltT rfl hr (de_var 4) (de_var 5)))) da_nil))))
  (dss_one (ds_raise rfl (takes_of rfl rfl rfl rfl) T.x_InvalidPaper))
  dss_nil)))
theorem c_need_paper {P : Program} {w : World} {K : PySem.W.Frag} {mg : Str → Option Value} {base : Heap} {cls : Nat → Value} (T : Txt K mg cls) (h_is_stand : FnC P w K mg base cls "is_stand" 3 2 m_is_stand) {f : Addr} {fd : FuncData} (F : Fun K "need_paper" "need_paper" (top 32) f fd) (hm : mg "need_paper" = some (.ref f)) : FnC P w K mg base cls "need_paper" 3 3 m_need_paper :=
  fnC_of F sc_need_paper hm (F.binds fun _ _ _ _ _ _ us hl => match us, hl with | [_, _, _], _ => rfl) (b_need_paper T h_is_stand)
/-! _law_book -/
def N__law_book : List Str := ["_law_source_here", "_law_moods", "_law_found", "_law_mood", "_law_rows", "_law_look", "_law_some"]
theorem sc__law_book : FnScope N__law_book ["_law_source_here"] (defScope (top 40)) := ⟨rfl, rfl, rfl, by decide +kernel, rfl, by decide +kernel, by decide +kernel⟩
def f__law_book_b1 : SF := (sSeq (sAsg (eIf (tV (eOp opEq (eOp opMod (eVar 5) (eC (.int 3))) (eC (.int 0)))) (eLst (aCons (eC (.str "leave")) aNil)) (eSl (eLst (aCons (eC (.str "take")) (aCons (eC (.str "leave")) (aCons (eC (.str "take")) (aCons (eC (.str "take")) aNil))))) (oSome (eIf (tV (eOp opGt (eVar 5) (eC (.int 3)))) (eC (.int 0)) (eC (.int 1)))) (oSome (eC (.int 4))))) (gN 6))
  (sAsg (eOp opAdd (eVar 4) (eTup (aCons (eTup (aCons (eCall m__law_choice (iSrc 0 (iCons (eVar 6) iNil))) (aCons (eCall m__law_draw (iSrc 0 (iCons (eVar 1) iNil))) aNil))) aNil))) (gN 4)))
def f__law_book_b2 : SF := (sSeq (sAsg (eTup aNil) (gN 4))
  (sSeq (sFor (jRng1 (aCons (eC (.int 6)) aNil)) (gN 5)
  (f__law_book_b1))
  (sAsg (eOp opAdd (eVar 2) (eTup (aCons (eVar 4) aNil))) (gN 2))))
def f__law_book : SF := (sSeq (sAsg (eOp opAdd (eC (.int 1)) (eCall m__law_draw (iSrc 0 (iCons (eC (.int 2)) iNil)))) (gN 1))
  (sSeq (sAsg (eTup aNil) (gN 2))
  (sSeq (sFor (jRng1 (aCons (eVar 1) aNil)) (gN 3)
  (f__law_book_b2))
  (sRet (eVar 2)))))
def m__law_book : List AU.It → M DD := runB 7 f__law_book
theorem b__law_book {P : Program} {w : World} {K : PySem.W.Frag} {mg : Str → Option Value} {base : Heap} {cls : Nat → Value} (T : Txt K mg cls) (h__law_choice : FnC P w K mg base cls "_law_choice" 2 2 m__law_choice) (h__law_draw : FnC P w K mg base cls "_law_draw" 2 1 m__law_draw) {f : Addr} : BodyOk P w K mg base cls N__law_book "_law_book" (top 40) f 2 f__law_book := by
  intro cdv A outer s H E B hr hK hc hT
  subst hK hc
  exact (dss_cons (ds_asg (de_add rfl de_int (de_call h__law_draw hr (by decide) rfl (takes_of rfl rfl rfl rfl) (di_src 0 (di_cons de_int di_nil)))) (dg_name 1 sc__law_book.nd))
  (dss_cons (ds_asg (de_tup da_nil) (dg_name 2 sc__law_book.nd))
  (dss_cons (ds_for rfl (passes_of rfl) rfl (dj_rng1 T.f_range (da_cons (de_var 1) da_nil)) (dg_name 3 sc__law_book.nd)
  (dss_cons (ds_asg (de_tup da_nil) (dg_name 4 sc__law_book.nd))
  (dss_cons (ds_for rfl (passes_of rfl) rfl (dj_rng1 T.f_range (da_cons de_int da_nil)) (dg_name 5 sc__law_book.nd)
  (dss_cons (ds_asg (de_if (dt_eq rfl hr (de_mod (de_var 5) de_int) de_int) (de_lst (da_cons de_str da_nil)) (de_slice rfl (de_lst (da_cons de_str (da_cons de_str (da_cons de_str (da_cons de_str da_nil))))) (do_some (de_if (dt_gt (de_var 5) de_int) de_int de_int)) (do_some de_int))) (dg_name 6 sc__law_book.nd))
  (dss_one (ds_asg (de_add rfl (de_var 4) (de_tup (da_cons (de_tup (da_cons (de_call h__law_choice hr (by decide) rfl (takes_of rfl rfl rfl rfl) (di_src 0 (di_cons (de_var 6) di_nil))) (da_cons (de_call h__law_draw hr (by decide) rfl (takes_of rfl rfl rfl rfl) (di_src 0 (di_cons (de_var 1) di_nil))) da_nil))) da_nil))) (dg_name 4 sc__law_book.nd)))))
  (dss_one (ds_asg (de_add rfl (de_var 2) (de_tup (da_cons (de_var 4) da_nil))) (dg_name 2 sc__law_book.nd))))))
  (dss_one (ds_ret (de_var 2))))))
theorem c__law_book {P : Program} {w : World} {K : PySem.W.Frag} {mg : Str → Option Value} {base : Heap} {cls : Nat → Value} (T : Txt K mg cls) (h__law_choice : FnC P w K mg base cls "_law_choice" 2 2 m__law_choice) (h__law_draw : FnC P w K mg base cls "_law_draw" 2 1 m__law_draw) {f : Addr} {fd : FuncData} (F : Fun K "_law_book" "_law_book" (top 40) f fd) (hm : mg "_law_book" = some (.ref f)) : FnC P w K mg base cls "_law_book" 1 3 m__law_book :=
  fnC_of F sc__law_book hm (F.binds fun _ _ _ _ _ _ us hl => match us, hl with | [_], _ => rfl) (b__law_book T h__law_choice h__law_draw)
/-! _law_reached -/
def N__law_reached : List Str := ["_law_book_here", "_law_climate", "_law_n", "_law_firsts", "_law_found", "_law_line", "_law_later", "_law_stand", "_law_rain", "_law_wet_here", "_law_there"]
theorem sc__law_reached : FnScope N__law_reached ["_law_book_here", "_law_climate", "_law_n", "_law_firsts"] (defScope (top 43)) := ⟨rfl, rfl, rfl, by decide +kernel, rfl, by decide +kernel, by decide +kernel⟩
def f__law_reached_b1 : SF := (sIf (tV (eInM true 4 (eVar 10)))
  (sSeq (sPutM 4 (eOp opAdd (eGetM 4 (eVar 7)) (eTup (aCons (eVar 8) aNil))) (eVar 10))
  (sApp 6 (eVar 10)))
  sNil)
def f__law_reached_b2 : SF := (sFor (jSeq (eCall m__law_next (iCons (eVar 0) (iCons (eVar 1) (iCons (eVar 2) (iCons (eVar 7) iNil)))))) (gT 3 (gsC (gN 8) (gsC (gN 9) (gsC (gN 10) gsN))))
  (f__law_reached_b1))
def f__law_reached_b3 : SF := (sSeq (sSetL 6 (nLst aNil))
  (sSeq (sFor (jSeq (eVar 5)) (gN 7)
  (f__law_reached_b2))
  (sFrz 6 (sAsg (eVar 6) (gN 5)))))
def f__law_reached : SF := (sSeq (sSetM 4 (mDict (aCons (eLc [7] (jSeq (eVar 3)) (gN 7) tYesD (eTup (aCons (eVar 7) (aCons (eTup aNil) aNil)))) aNil)))
  (sSeq (sAsg (eB bList (aCons (eVar 3) aNil)) (gN 5))
  (sSeq (sWhile (tV (eOp opNe (eVar 5) (eLst aNil)))
  (f__law_reached_b3)
  fuel_)
  (sFrz 4 (sRet (eVar 4))))))
def m__law_reached : List AU.It → M DD := runB 11 f__law_reached
theorem b__law_reached {P : Program} {w : World} {K : PySem.W.Frag} {mg : Str → Option Value} {base : Heap} {cls : Nat → Value} (T : Txt K mg cls) (h__law_next : FnC P w K mg base cls "_law_next" 4 2 m__law_next) {f : Addr} : BodyOk P w K mg base cls N__law_reached "_law_reached" (top 43) f 2 f__law_reached := by
  intro cdv A outer s H E B hr hK hc hT
  subst hK hc
  exact (dss_cons (ds_setM 4 sc__law_reached.nd (dm_dict rfl hr rfl T.f_dict (da_cons (de_lc (own := [("_law_stand", 7)]) rfl sc__law_reached.nd (dj_seq rfl (de_var 3)) (blkOk_by (by kernel_rfl)) (fun _ _ _ _ _ => (dg_name 7 sc__law_reached.nd)) (fun _ _ _ _ _ => dts_nil) (fun _ _ _ _ _ => (de_tup (da_cons (de_var 7) (da_cons (de_tup da_nil) da_nil))))) da_nil)))
  (dss_cons (ds_asg (de_list rfl rfl T.f_list (da_cons (de_var 3) da_nil)) (dg_name 5 sc__law_reached.nd))
  (dss_cons (ds_while (passes_of rfl) (dt_ne rfl hr (de_var 5) (de_lst da_nil))
  (dss_cons (ds_setL 6 sc__law_reached.nd (dn_lst da_nil))
  (dss_cons (ds_for rfl (passes_of rfl) rfl (dj_seq rfl (de_var 5)) (dg_name 7 sc__law_reached.nd)
  (dss_one (ds_for rfl (passes_of rfl) rfl (dj_seq rfl (de_call h__law_next hr (by decide) rfl (takes_of rfl rfl rfl rfl) (di_cons (de_var 0) (di_cons (de_var 1) (di_cons (de_var 2) (di_cons (de_var 7) di_nil)))))) (dg_tup rfl rfl (dgs_cons (dg_name 8 sc__law_reached.nd) (dgs_cons (dg_name 9 sc__law_reached.nd) (dgs_cons (dg_name 10 sc__law_reached.nd) dgs_nil))))
  (dss_one (ds_if (dt_notinM 4 rfl hr (de_var 10))
  (dss_cons (ds_putM 4 rfl hr (de_add rfl (de_ixM 4 rfl hr (de_var 7)) (de_tup (da_cons (de_var 8) da_nil))) (de_var 10))
  (dss_one (ds_app 6 (de_var 10))))
  dss_nil)))))
  (dss_one (ds_frz 6 (ds_asg (de_var 6) (dg_name 5 sc__law_reached.nd))))))
  fuel_)
  (dss_one (ds_frz 4 (ds_ret (de_var 4)))))))
theorem c__law_reached {P : Program} {w : World} {K : PySem.W.Frag} {mg : Str → Option Value} {base : Heap} {cls : Nat → Value} (T : Txt K mg cls) (h__law_next : FnC P w K mg base cls "_law_next" 4 2 m__law_next) {f : Addr} {fd : FuncData} (F : Fun K "_law_reached" "_law_reached" (top 43) f fd) (hm : mg "_law_reached" = some (.ref f)) : FnC P w K mg base cls "_law_reached" 4 3 m__law_reached :=
  fnC_of F sc__law_reached hm (F.binds fun _ _ _ _ _ _ us hl => match us, hl with | [_, _, _, _], _ => rfl) (b__law_reached T h__law_next)
/-! _law_shows -/
def N__law_shows : List Str := ["_law_book_here", "_law_climate", "_law_n", "_law_away", "_law_value", "_law_stand", "_law_rain", "_law_wet_here", "_law_there"]
theorem sc__law_shows : FnScope N__law_shows ["_law_book_here", "_law_climate", "_law_n", "_law_away", "_law_value"] (defScope (top 45)) := ⟨rfl, rfl, rfl, by decide +kernel, rfl, by decide +kernel, by decide +kernel⟩
def f__law_shows_b1 : SF := (sIf (tOrD (tV (eVar 7)) (tV (eOp opNotIn (eVar 8) (eVar 4))))
  (sRet (eC (.bl false)))
  sNil)
def f__law_shows_b2 : SF := (sFor (jSeq (eCall m__law_next (iCons (eVar 0) (iCons (eVar 1) (iCons (eVar 2) (iCons (eVar 5) iNil)))))) (gT 3 (gsC (gN 6) (gsC (gN 7) (gsC (gN 8) gsN))))
  (f__law_shows_b1))
def f__law_shows : SF := (sSeq (sIf (tV (eOp opNotIn (eTup (aCons (eC (.int 0)) (aCons (eC (.int 0)) (aCons (eOp opSub (eVar 2) (eVar 3)) (aCons (eC (.bl false)) aNil))))) (eVar 4)))
  (sRet (eC (.bl false)))
  sNil)
  (sSeq (sFor (jSeq (eVar 4)) (gN 5)
  (f__law_shows_b2))
  (sRet (eC (.bl true)))))
def m__law_shows : List AU.It → M DD := runB 9 f__law_shows
theorem b__law_shows {P : Program} {w : World} {K : PySem.W.Frag} {mg : Str → Option Value} {base : Heap} {cls : Nat → Value} (T : Txt K mg cls) (h__law_next : FnC P w K mg base cls "_law_next" 4 2 m__law_next) {f : Addr} : BodyOk P w K mg base cls N__law_shows "_law_shows" (top 45) f 2 f__law_shows := by
  intro cdv A outer s H E B hr hK hc hT
  subst hK hc
  exact (dss_cons (ds_if (dt_notin rfl hr (de_tup (da_cons de_int (da_cons de_int (da_cons (de_sub (de_var 2) (de_var 3)) (da_cons de_bl da_nil))))) (de_var 4))
  (dss_one (ds_ret de_bl))
  dss_nil)
  (dss_cons (ds_for rfl (passes_of rfl) rfl (dj_seq rfl (de_var 4)) (dg_name 5 sc__law_shows.nd)
  (dss_one (ds_for rfl (passes_of rfl) rfl (dj_seq rfl (de_call h__law_next hr (by decide) rfl (takes_of rfl rfl rfl rfl) (di_cons (de_var 0) (di_cons (de_var 1) (di_cons (de_var 2) (di_cons (de_var 5) di_nil)))))) (dg_tup rfl rfl (dgs_cons (dg_name 6 sc__law_shows.nd) (dgs_cons (dg_name 7 sc__law_shows.nd) (dgs_cons (dg_name 8 sc__law_shows.nd) dgs_nil))))
  (dss_one (ds_if (dw_pt (dw_or (dt_val (de_var 7)) (dw_or1 (dt_notin rfl hr (de_var 8) (de_var 4)))))
  (dss_one (ds_ret de_bl))
  dss_nil)))))
  (dss_one (ds_ret de_bl))))
theorem c__law_shows {P : Program} {w : World} {K : PySem.W.Frag} {mg : Str → Option Value} {base : Heap} {cls : Nat → Value} (T : Txt K mg cls) (h__law_next : FnC P w K mg base cls "_law_next" 4 2 m__law_next) {f : Addr} {fd : FuncData} (F : Fun K "_law_shows" "_law_shows" (top 45) f fd) (hm : mg "_law_shows" = some (.ref f)) : FnC P w K mg base cls "_law_shows" 5 3 m__law_shows :=
  fnC_of F sc__law_shows hm (F.binds fun _ _ _ _ _ _ us hl => match us, hl with | [_, _, _, _, _], _ => rfl) (b__law_shows T h__law_next)
/-! has_book -/
def N_has_book : List Str := ["value", "mood"]
theorem sc_has_book : FnScope N_has_book ["value"] (defScope (top 14)) := ⟨rfl, rfl, rfl, by decide +kernel, rfl, by decide +kernel, by decide +kernel⟩
def f_has_book : SF := (sSeq (sIf (tOrD (tNotD (tV (eB bIsi (aCons (eVar 0) (aCons (eC (.raw (.ty "tuple"))) aNil))))) (tNotD (tV (eChain opLe opLe (eC (.int 1)) (eB bLen (aCons (eVar 0) aNil)) (eC (.int 2))))))
  (sRet (eC (.bl false)))
  sNil)
  (sRet (eB bAll (aCons (eLc [1] (jSeq (eVar 0)) (gN 1) tYesD (eCall m_is_mood (iCons (eVar 1) (iCons (eB bLen (aCons (eVar 0) aNil)) iNil)))) aNil))))
def m_has_book : List AU.It → M DD := runB 2 f_has_book
theorem b_has_book {P : Program} {w : World} {K : PySem.W.Frag} {mg : Str → Option Value} {base : Heap} {cls : Nat → Value} (T : Txt K mg cls) (h_is_mood : FnC P w K mg base cls "is_mood" 2 3 m_is_mood) {f : Addr} : BodyOk P w K mg base cls N_has_book "has_book" (top 14) f 3 f_has_book := by
  intro cdv A outer s H E B hr hK hc hT
  subst hK hc
  exact (dss_cons (ds_if (dw_pt (dw_or (dt_not (dt_val (de_isi rfl T.f_isinstance (da_cons (de_var 0) (da_cons (de_ty T.f_tuple) da_nil))))) (dw_or1 (dt_not (dt_lele de_int (de_len rfl T.f_len (da_cons (de_var 0) da_nil)) (de_globI T.g_MOST_MOODS))))))
  (dss_one (ds_ret de_bl))
  dss_nil)
  (dss_one (ds_ret (de_all rfl rfl T.f_all (da_cons (de_lc (own := [("mood", 1)]) rfl sc_has_book.nd (dj_seq rfl (de_var 0)) (blkOk_by (by kernel_rfl)) (fun _ _ _ _ _ => (dg_name 1 sc_has_book.nd)) (fun _ _ _ _ _ => dts_nil) (fun _ _ _ _ _ => (de_call h_is_mood hr (by decide) rfl takes_none5 (di_cons (de_var 1) (di_cons (de_len rfl T.f_len (da_cons (de_var 0) da_nil)) di_nil))))) da_nil)))))
theorem c_has_book {P : Program} {w : World} {K : PySem.W.Frag} {mg : Str → Option Value} {base : Heap} {cls : Nat → Value} (T : Txt K mg cls) (h_is_mood : FnC P w K mg base cls "is_mood" 2 3 m_is_mood) {f : Addr} {fd : FuncData} (F : Fun K "has_book" "has_book" (top 14) f fd) (hm : mg "has_book" = some (.ref f)) : FnC P w K mg base cls "has_book" 1 4 m_has_book :=
  fnC_of F sc_has_book hm (F.binds fun _ _ _ _ _ _ us hl => match us, hl with | [_], _ => rfl) (b_has_book T h_is_mood)
/-! steps_of -/
def N_steps_of : List Str := ["book", "climate", "n", "stand", "found", "rain", "took", "there"]
theorem sc_steps_of : FnScope N_steps_of ["book", "climate", "n", "stand"] (defScope (top 26)) := ⟨rfl, rfl, rfl, by decide +kernel, rfl, by decide +kernel, by decide +kernel⟩
def f_steps_of_b1 : SF := (sSeq (sAsg (eCall m_step_of (iCons (eVar 0) (iCons (eVar 1) (iCons (eVar 2) (iCons (eVar 3) (iCons (eVar 5) iNil)))))) (gT 2 (gsC (gN 6) (gsC (gN 7) gsN))))
  (sApp 4 (eTup (aCons (eVar 5) (aCons (eAnd (eVar 5) (eNot (eVar 6))) (aCons (eVar 7) aNil))))))
def f_steps_of : SF := (sSeq (sSetL 4 (nLst aNil))
  (sSeq (sFor (jSeq (eCall m_rains (iCons (eVar 1) (iCons (eVar 3) iNil)))) (gN 5)
  (f_steps_of_b1))
  (sFrz 4 (sRet (eVar 4)))))
def m_steps_of : List AU.It → M DD := runB 8 f_steps_of
theorem b_steps_of {P : Program} {w : World} {K : PySem.W.Frag} {mg : Str → Option Value} {base : Heap} {cls : Nat → Value} (T : Txt K mg cls) (h_rains : FnC P w K mg base cls "rains" 2 1 m_rains) (h_step_of : FnC P w K mg base cls "step_of" 5 3 m_step_of) {f : Addr} : BodyOk P w K mg base cls N_steps_of "steps_of" (top 26) f 3 f_steps_of := by
  intro cdv A outer s H E B hr hK hc hT
  subst hK hc
  exact (dss_cons (ds_setL 4 sc_steps_of.nd (dn_lst da_nil))
  (dss_cons (ds_for rfl (passes_of rfl) rfl (dj_seq rfl (de_call h_rains hr (by decide) rfl (takes_of rfl rfl rfl rfl) (di_cons (de_var 1) (di_cons (de_var 3) di_nil)))) (dg_name 5 sc_steps_of.nd)
  (dss_cons (ds_asg (de_call h_step_of hr (by decide) rfl (takes_of rfl rfl rfl rfl) (di_cons (de_var 0) (di_cons (de_var 1) (di_cons (de_var 2) (di_cons (de_var 3) (di_cons (de_var 5) di_nil)))))) (dg_tup rfl rfl (dgs_cons (dg_name 6 sc_steps_of.nd) (dgs_cons (dg_name 7 sc_steps_of.nd) dgs_nil))))
  (dss_one (ds_app 4 (de_tup (da_cons (de_var 5) (da_cons (de_and (de_var 5) (de_one (de_not (de_var 6)))) (da_cons (de_var 7) da_nil))))))))
  (dss_one (ds_frz 4 (ds_ret (de_var 4))))))
theorem c_steps_of {P : Program} {w : World} {K : PySem.W.Frag} {mg : Str → Option Value} {base : Heap} {cls : Nat → Value} (T : Txt K mg cls) (h_rains : FnC P w K mg base cls "rains" 2 1 m_rains) (h_step_of : FnC P w K mg base cls "step_of" 5 3 m_step_of) {f : Addr} {fd : FuncData} (F : Fun K "steps_of" "steps_of" (top 26) f fd) (hm : mg "steps_of" = some (.ref f)) : FnC P w K mg base cls "steps_of" 4 4 m_steps_of :=
  fnC_of F sc_steps_of hm (F.binds fun _ _ _ _ _ _ us hl => match us, hl with | [_, _, _, _], _ => rfl) (b_steps_of T h_rains h_step_of)
/-! _law_wet -/
def N__law_wet : List Str := ["_law_book_here", "_law_climate", "_law_n", "_law_firsts", "_law_best", "_law_found", "_law_stand", "_law_rain", "_law_wet_here", "_law_there"]
theorem sc__law_wet : FnScope N__law_wet ["_law_book_here", "_law_climate", "_law_n", "_law_firsts"] (defScope (top 44)) := ⟨rfl, rfl, rfl, by decide +kernel, rfl, by decide +kernel, by decide +kernel⟩
def f__law_wet_b1 : SF := (sIf (tAndD (tV (eVar 8)) (tOrD (tV (eOp opIs (eVar 4) (eC .non))) (tV (eOp opLt (eOp opAdd (eB bLen (aCons (eOp opIx (eVar 5) (eVar 6)) aNil)) (eC (.int 1))) (eB bLen (aCons (eVar 4) aNil))))))
  (sAsg (eOp opAdd (eOp opIx (eVar 5) (eVar 6)) (eTup (aCons (eC (.bl true)) aNil))) (gN 4))
  sNil)
def f__law_wet_b2 : SF := (sFor (jSeq (eCall m__law_next (iCons (eVar 0) (iCons (eVar 1) (iCons (eVar 2) (iCons (eVar 6) iNil)))))) (gT 3 (gsC (gN 7) (gsC (gN 8) (gsC (gN 9) gsN))))
  (f__law_wet_b1))
def f__law_wet : SF := (sSeq (sAsg (eC .non) (gN 4))
  (sSeq (sAsg (eCall m__law_reached (iCons (eVar 0) (iCons (eVar 1) (iCons (eVar 2) (iCons (eVar 3) iNil))))) (gN 5))
  (sSeq (sFor (jSeq (eVar 5)) (gN 6)
  (f__law_wet_b2))
  (sRet (eVar 4)))))
def m__law_wet : List AU.It → M DD := runB 10 f__law_wet
theorem b__law_wet {P : Program} {w : World} {K : PySem.W.Frag} {mg : Str → Option Value} {base : Heap} {cls : Nat → Value} (T : Txt K mg cls) (h__law_next : FnC P w K mg base cls "_law_next" 4 2 m__law_next) (h__law_reached : FnC P w K mg base cls "_law_reached" 4 3 m__law_reached) {f : Addr} : BodyOk P w K mg base cls N__law_wet "_law_wet" (top 44) f 3 f__law_wet := by
  intro cdv A outer s H E B hr hK hc hT
  subst hK hc
  exact (dss_cons (ds_asg de_non (dg_name 4 sc__law_wet.nd))
  (dss_cons (ds_asg (de_call h__law_reached hr (by decide) rfl (takes_of rfl rfl rfl rfl) (di_cons (de_var 0) (di_cons (de_var 1) (di_cons (de_var 2) (di_cons (de_var 3) di_nil))))) (dg_name 5 sc__law_wet.nd))
  (dss_cons (ds_for rfl (passes_of rfl) rfl (dj_seq rfl (de_var 5)) (dg_name 6 sc__law_wet.nd)
  (dss_one (ds_for rfl (passes_of rfl) rfl (dj_seq rfl (de_call h__law_next hr (by decide) rfl (takes_of rfl rfl rfl rfl) (di_cons (de_var 0) (di_cons (de_var 1) (di_cons (de_var 2) (di_cons (de_var 6) di_nil)))))) (dg_tup rfl rfl (dgs_cons (dg_name 7 sc__law_wet.nd) (dgs_cons (dg_name 8 sc__law_wet.nd) (dgs_cons (dg_name 9 sc__law_wet.nd) dgs_nil))))
  (dss_one (ds_if (dw_pt (dw_and (dt_val (de_var 8)) (dw_and1 (dw_pt (dw_or (dt_isN (de_var 4) de_non) (dw_or1 (dt_lt (de_add rfl (de_len rfl T.f_len (da_cons (de_ix rfl hr (de_var 5) (de_var 6)) da_nil)) de_int) (de_len rfl T.f_len (da_cons (de_var 4) da_nil)))))))))
  (dss_one (ds_asg (de_add rfl (de_ix rfl hr (de_var 5) (de_var 6)) (de_tup (da_cons de_bl da_nil))) (dg_name 4 sc__law_wet.nd)))
  dss_nil)))))
  (dss_one (ds_ret (de_var 4))))))
theorem c__law_wet {P : Program} {w : World} {K : PySem.W.Frag} {mg : Str → Option Value} {base : Heap} {cls : Nat → Value} (T : Txt K mg cls) (h__law_next : FnC P w K mg base cls "_law_next" 4 2 m__law_next) (h__law_reached : FnC P w K mg base cls "_law_reached" 4 3 m__law_reached) {f : Addr} {fd : FuncData} (F : Fun K "_law_wet" "_law_wet" (top 44) f fd) (hm : mg "_law_wet" = some (.ref f)) : FnC P w K mg base cls "_law_wet" 4 4 m__law_wet :=
  fnC_of F sc__law_wet hm (F.binds fun _ _ _ _ _ _ us hl => match us, hl with | [_, _, _, _], _ => rfl) (b__law_wet T h__law_next h__law_reached)
/-! need_book -/
def N_need_book : List Str := ["value"]
theorem sc_need_book : FnScope N_need_book ["value"] (defScope (top 15)) := ⟨rfl, rfl, rfl, by decide +kernel, rfl, by decide +kernel, by decide +kernel⟩
def f_need_book : SF := (sIf (tNotD (tV (eCall m_has_book (iCons (eVar 0) iNil))))
  (sRaise kx_InvalidBook)
  sNil)
def m_need_book : List AU.It → M DD := runB 1 f_need_book
theorem b_need_book {P : Program} {w : World} {K : PySem.W.Frag} {mg : Str → Option Value} {base : Heap} {cls : Nat → Value} (T : Txt K mg cls) (h_has_book : FnC P w K mg base cls "has_book" 1 4 m_has_book) {f : Addr} : BodyOk P w K mg base cls N_need_book "need_book" (top 15) f 4 f_need_book := by
  intro cdv A outer s H E B hr hK hc hT
  subst hK hc
  exact (dss_one (ds_if (dt_not (dt_val (de_call h_has_book hr (by decide) rfl (takes_of rfl rfl rfl rfl) (di_cons (de_var 0) di_nil))))
  (dss_one (ds_raise rfl (takes_of rfl rfl rfl rfl) T.x_InvalidBook))
  dss_nil))
theorem c_need_book {P : Program} {w : World} {K : PySem.W.Frag} {mg : Str → Option Value} {base : Heap} {cls : Nat → Value} (T : Txt K mg cls) (h_has_book : FnC P w K mg base cls "has_book" 1 4 m_has_book) {f : Addr} {fd : FuncData} (F : Fun K "need_book" "need_book" (top 15) f fd) (hm : mg "need_book" = some (.ref f)) : FnC P w K mg base cls "need_book" 1 5 m_need_book :=
  fnC_of F sc_need_book hm (F.binds fun _ _ _ _ _ _ us hl => match us, hl with | [_], _ => rfl) (b_need_book T h_has_book)
/-! reached -/
def N_reached : List Str := ["book", "climate", "n", "some", "found", "stand", "line", "later", "rain", "wet", "there"]
theorem sc_reached : FnScope N_reached ["book", "climate", "n", "some"] (defScope (top 28)) := ⟨rfl, rfl, rfl, by decide +kernel, rfl, by decide +kernel, by decide +kernel⟩
def f_reached_b1 : SF := (sPutM 4 (eTup aNil) (eVar 5))
def f_reached_b2 : SF := (sIf (tV (eInM true 4 (eVar 10)))
  (sSeq (sPutM 4 (eOp opAdd (eGetM 4 (eVar 5)) (eTup (aCons (eVar 8) aNil))) (eVar 10))
  (sApp 7 (eVar 10)))
  sNil)
def f_reached_b3 : SF := (sFor (jSeq (eCall m_steps_of (iCons (eVar 0) (iCons (eVar 1) (iCons (eVar 2) (iCons (eVar 5) iNil)))))) (gT 3 (gsC (gN 8) (gsC (gN 9) (gsC (gN 10) gsN))))
  (f_reached_b2))
def f_reached_b4 : SF := (sSeq (sSetL 7 (nLst aNil))
  (sSeq (sFor (jSeq (eVar 6)) (gN 5)
  (f_reached_b3))
  (sFrz 7 (sAsg (eVar 7) (gN 6)))))
def f_reached : SF := (sSeq (sSetM 4 mNew)
  (sSeq (sFor (jSeq (eVar 3)) (gN 5)
  (f_reached_b1))
  (sSeq (sAsg (eB bList (aCons (eVar 3) aNil)) (gN 6))
  (sSeq (sWhile (tV (eOp opNe (eVar 6) (eLst aNil)))
  (f_reached_b4)
  fuel_)
  (sFrz 4 (sRet (eVar 4)))))))
def m_reached : List AU.It → M DD := runB 11 f_reached
theorem b_reached {P : Program} {w : World} {K : PySem.W.Frag} {mg : Str → Option Value} {base : Heap} {cls : Nat → Value} (T : Txt K mg cls) (h_steps_of : FnC P w K mg base cls "steps_of" 4 4 m_steps_of) {f : Addr} : BodyOk P w K mg base cls N_reached "reached" (top 28) f 4 f_reached := by
  intro cdv A outer s H E B hr hK hc hT
  subst hK hc
  exact (dss_cons (ds_setM 4 sc_reached.nd dm_new)
  (dss_cons (ds_for rfl (passes_of rfl) rfl (dj_seq rfl (de_var 3)) (dg_name 5 sc_reached.nd)
  (dss_one (ds_putM 4 rfl hr (de_tup da_nil) (de_var 5))))
  (dss_cons (ds_asg (de_list rfl rfl T.f_list (da_cons (de_var 3) da_nil)) (dg_name 6 sc_reached.nd))
  (dss_cons (ds_while (passes_of rfl) (dt_ne rfl hr (de_var 6) (de_lst da_nil))
  (dss_cons (ds_setL 7 sc_reached.nd (dn_lst da_nil))
  (dss_cons (ds_for rfl (passes_of rfl) rfl (dj_seq rfl (de_var 6)) (dg_name 5 sc_reached.nd)
  (dss_one (ds_for rfl (passes_of rfl) rfl (dj_seq rfl (de_call h_steps_of hr (by decide) rfl (takes_of rfl rfl rfl rfl) (di_cons (de_var 0) (di_cons (de_var 1) (di_cons (de_var 2) (di_cons (de_var 5) di_nil)))))) (dg_tup rfl rfl (dgs_cons (dg_name 8 sc_reached.nd) (dgs_cons (dg_name 9 sc_reached.nd) (dgs_cons (dg_name 10 sc_reached.nd) dgs_nil))))
  (dss_one (ds_if (dt_notinM 4 rfl hr (de_var 10))
  (dss_cons (ds_putM 4 rfl hr (de_add rfl (de_ixM 4 rfl hr (de_var 5)) (de_tup (da_cons (de_var 8) da_nil))) (de_var 10))
  (dss_one (ds_app 7 (de_var 10))))
  dss_nil)))))
  (dss_one (ds_frz 7 (ds_asg (de_var 7) (dg_name 6 sc_reached.nd))))))
  fuel_)
  (dss_one (ds_frz 4 (ds_ret (de_var 4))))))))
theorem c_reached {P : Program} {w : World} {K : PySem.W.Frag} {mg : Str → Option Value} {base : Heap} {cls : Nat → Value} (T : Txt K mg cls) (h_steps_of : FnC P w K mg base cls "steps_of" 4 4 m_steps_of) {f : Addr} {fd : FuncData} (F : Fun K "reached" "reached" (top 28) f fd) (hm : mg "reached" = some (.ref f)) : FnC P w K mg base cls "reached" 4 5 m_reached :=
  fnC_of F sc_reached hm (F.binds fun _ _ _ _ _ _ us hl => match us, hl with | [_, _, _, _], _ => rfl) (b_reached T h_steps_of)
/-! is_dry -/
def N_is_dry : List Str := ["book", "climate", "n", "some", "stand", "rain", "wet", "there"]
theorem sc_is_dry : FnScope N_is_dry ["book", "climate", "n", "some"] (defScope (top 33)) := ⟨rfl, rfl, rfl, by decide +kernel, rfl, by decide +kernel, by decide +kernel⟩
def f_is_dry : SF := (sRet (eNot (eB bAny (aCons (eLc [4] (jSeq (eVar 3)) (gN 4) tYesD (eB bAny (aCons (eLc [5, 6, 7] (jSeq (eCall m_steps_of (iCons (eVar 0) (iCons (eVar 1) (iCons (eVar 2) (iCons (eVar 4) iNil)))))) (gT 3 (gsC (gN 5) (gsC (gN 6) (gsC (gN 7) gsN)))) tYesD (eVar 6)) aNil))) aNil))))
def m_is_dry : List AU.It → M DD := runB 8 f_is_dry
theorem b_is_dry {P : Program} {w : World} {K : PySem.W.Frag} {mg : Str → Option Value} {base : Heap} {cls : Nat → Value} (T : Txt K mg cls) (h_steps_of : FnC P w K mg base cls "steps_of" 4 4 m_steps_of) {f : Addr} : BodyOk P w K mg base cls N_is_dry "is_dry" (top 33) f 4 f_is_dry := by
  intro cdv A outer s H E B hr hK hc hT
  subst hK hc
  exact (dss_one (ds_ret (de_not (de_any rfl rfl T.f_any (da_cons (de_lc (own := [("stand", 4)]) rfl sc_is_dry.nd (dj_seq rfl (de_var 3)) (blkOk_by (by kernel_rfl)) (fun _ _ _ _ _ => (dg_name 4 sc_is_dry.nd)) (fun _ _ _ _ _ => dts_nil) (fun _ _ _ _ _ => (de_any rfl rfl T.f_any (da_cons (de_lc (own := [("rain", 5), ("wet", 6), ("there", 7)]) rfl sc_is_dry.nd (dj_seq rfl (de_call h_steps_of hr (by decide) rfl takes_none5 (di_cons (de_var 0) (di_cons (de_var 1) (di_cons (de_var 2) (di_cons (de_var 4) di_nil)))))) (blkOk_by (by kernel_rfl)) (fun _ _ _ _ _ => (dg_tup rfl rfl (dgs_cons (dg_name 5 sc_is_dry.nd) (dgs_cons (dg_name 6 sc_is_dry.nd) (dgs_cons (dg_name 7 sc_is_dry.nd) dgs_nil))))) (fun _ _ _ _ _ => dts_nil) (fun _ _ _ _ _ => (de_var 6))) da_nil)))) da_nil)))))
theorem c_is_dry {P : Program} {w : World} {K : PySem.W.Frag} {mg : Str → Option Value} {base : Heap} {cls : Nat → Value} (T : Txt K mg cls) (h_steps_of : FnC P w K mg base cls "steps_of" 4 4 m_steps_of) {f : Addr} {fd : FuncData} (F : Fun K "is_dry" "is_dry" (top 33) f fd) (hm : mg "is_dry" = some (.ref f)) : FnC P w K mg base cls "is_dry" 4 5 m_is_dry :=
  fnC_of F sc_is_dry hm (F.binds fun _ _ _ _ _ _ us hl => match us, hl with | [_, _, _, _], _ => rfl) (b_is_dry T h_steps_of)
/-! need_both -/
def N_need_both : List Str := ["book", "climate"]
theorem sc_need_both : FnScope N_need_both ["book", "climate"] (defScope (top 17)) := ⟨rfl, rfl, rfl, by decide +kernel, rfl, by decide +kernel, by decide +kernel⟩
def f_need_both : SF := (sSeq (sExpr (eCall m_need_book (iCons (eVar 0) iNil)))
  (sExpr (eCall m_need_climate (iCons (eVar 1) iNil))))
def m_need_both : List AU.It → M DD := runB 2 f_need_both
theorem b_need_both {P : Program} {w : World} {K : PySem.W.Frag} {mg : Str → Option Value} {base : Heap} {cls : Nat → Value} (T : Txt K mg cls) (h_need_book : FnC P w K mg base cls "need_book" 1 5 m_need_book) (h_need_climate : FnC P w K mg base cls "need_climate" 1 1 m_need_climate) {f : Addr} : BodyOk P w K mg base cls N_need_both "need_both" (top 17) f 5 f_need_both := by
  intro cdv A outer s H E B hr hK hc hT
  subst hK hc
  exact (dss_cons (ds_expr (de_call h_need_book hr (by decide) rfl (takes_of rfl rfl rfl rfl) (di_cons (de_var 0) di_nil)))
  (dss_one (ds_expr (de_call h_need_climate hr (by decide) rfl (takes_of rfl rfl rfl rfl) (di_cons (de_var 1) di_nil)))))
theorem c_need_both {P : Program} {w : World} {K : PySem.W.Frag} {mg : Str → Option Value} {base : Heap} {cls : Nat → Value} (T : Txt K mg cls) (h_need_book : FnC P w K mg base cls "need_book" 1 5 m_need_book) (h_need_climate : FnC P w K mg base cls "need_climate" 1 1 m_need_climate) {f : Addr} {fd : FuncData} (F : Fun K "need_both" "need_both" (top 17) f fd) (hm : mg "need_both" = some (.ref f)) : FnC P w K mg base cls "need_both" 2 6 m_need_both :=
  fnC_of F sc_need_both hm (F.binds fun _ _ _ _ _ _ us hl => match us, hl with | [_, _], _ => rfl) (b_need_both T h_need_book h_need_climate)
/-! need_few -/
def N_need_few : List Str := ["book", "climate", "n", "away"]
theorem sc_need_few : FnScope N_need_few ["book", "climate", "n", "away"] (defScope (top 29)) := ⟨rfl, rfl, rfl, by decide +kernel, rfl, by decide +kernel, by decide +kernel⟩
def f_need_few : SF := (sSeq (sExpr (eCall m_need_both (iCons (eVar 0) (iCons (eVar 1) iNil))))
  (sSeq (sExpr (eCall m_need_number (iCons (eVar 2) (iCons (eC (.int 0)) (iCons (eC (.int 30)) iNil)))))
  (sExpr (eCall m_need_number (iCons (eVar 3) (iCons (eC (.int 0)) (iCons (eVar 2) iNil)))))))
def m_need_few : List AU.It → M DD := runB 4 f_need_few
theorem b_need_few {P : Program} {w : World} {K : PySem.W.Frag} {mg : Str → Option Value} {base : Heap} {cls : Nat → Value} (T : Txt K mg cls) (h_need_both : FnC P w K mg base cls "need_both" 2 6 m_need_both) (h_need_number : FnC P w K mg base cls "need_number" 3 2 m_need_number) {f : Addr} : BodyOk P w K mg base cls N_need_few "need_few" (top 29) f 6 f_need_few := by
  intro cdv A outer s H E B hr hK hc hT
  subst hK hc
  exact (dss_cons (ds_expr (de_call h_need_both hr (by decide) rfl (takes_of rfl rfl rfl rfl) (di_cons (de_var 0) (di_cons (de_var 1) di_nil))))
  (dss_cons (ds_expr (de_call h_need_number hr (by decide) rfl (takes_of rfl rfl rfl rfl) (di_cons (de_var 2) (di_cons de_int (di_cons (de_globI T.g_FEW) di_nil)))))
  (dss_one (ds_expr (de_call h_need_number hr (by decide) rfl (takes_of rfl rfl rfl rfl) (di_cons (de_var 3) (di_cons de_int (di_cons (de_var 2) di_nil))))))))
theorem c_need_few {P : Program} {w : World} {K : PySem.W.Frag} {mg : Str → Option Value} {base : Heap} {cls : Nat → Value} (T : Txt K mg cls) (h_need_both : FnC P w K mg base cls "need_both" 2 6 m_need_both) (h_need_number : FnC P w K mg base cls "need_number" 3 2 m_need_number) {f : Addr} {fd : FuncData} (F : Fun K "need_few" "need_few" (top 29) f fd) (hm : mg "need_few" = some (.ref f)) : FnC P w K mg base cls "need_few" 4 7 m_need_few :=
  fnC_of F sc_need_few hm (F.binds fun _ _ _ _ _ _ us hl => match us, hl with | [_, _, _, _], _ => rfl) (b_need_few T h_need_both h_need_number)
/-! is_paper -/
def N_is_paper : List Str := ["book", "climate", "n", "away", "value", "some", "stand", "step"]
theorem sc_is_paper : FnScope N_is_paper ["book", "climate", "n", "away", "value"] (defScope (top 34)) := ⟨rfl, rfl, rfl, by decide +kernel, rfl, by decide +kernel, by decide +kernel⟩
def f_is_paper : SF := (sSeq (sExpr (eCall m_need_few (iCons (eVar 0) (iCons (eVar 1) (iCons (eVar 2) (iCons (eVar 3) iNil))))))
  (sSeq (sExpr (eCall m_need_paper (iCons (eVar 0) (iCons (eVar 2) (iCons (eVar 4) iNil)))))
  (sSeq (sAsg (eB bSet (aCons (eVar 4) aNil)) (gN 5))
  (sSeq (sIf (tOrD (tV (eOp (opInS true) (eCall m_first_stand (iCons (eVar 2) (iCons (eVar 3) iNil))) (eVar 5))) (tNotD (tV (eCall m_is_dry (iCons (eVar 0) (iCons (eVar 1) (iCons (eVar 2) (iCons (eVar 4) iNil))))))))
  (sRet (eC (.bl false)))
  sNil)
  (sRet (eB bAll (aCons (eLc [6] (jSeq (eVar 4)) (gN 6) tYesD (eB bAll (aCons (eLc [7] (jSeq (eCall m_steps_of (iCons (eVar 0) (iCons (eVar 1) (iCons (eVar 2) (iCons (eVar 6) iNil)))))) (gN 7) tYesD (eOp (opInS false) (eOp opIx (eVar 7) (eC (.int 2))) (eVar 5))) aNil))) aNil)))))))
def m_is_paper : List AU.It → M DD := runB 8 f_is_paper
theorem b_is_paper {P : Program} {w : World} {K : PySem.W.Frag} {mg : Str → Option Value} {base : Heap} {cls : Nat → Value} (T : Txt K mg cls) (h_first_stand : FnC P w K mg base cls "first_stand" 2 1 m_first_stand) (h_is_dry : FnC P w K mg base cls "is_dry" 4 5 m_is_dry) (h_need_few : FnC P w K mg base cls "need_few" 4 7 m_need_few) (h_need_paper : FnC P w K mg base cls "need_paper" 3 3 m_need_paper) (h_steps_of : FnC P w K mg base cls "steps_of" 4 4 m_steps_of) {f : Addr} : BodyOk P w K mg base cls N_is_paper "is_paper" (top 34) f 7 f_is_paper := by
  intro cdv A outer s H E B hr hK hc hT
  subst hK hc
  exact (dss_cons (ds_expr (de_call h_need_few hr (by decide) rfl (takes_of rfl rfl rfl rfl) (di_cons (de_var 0) (di_cons (de_var 1) (di_cons (de_var 2) (di_cons (de_var 3) di_nil))))))
  (dss_cons (ds_expr (de_call h_need_paper hr (by decide) rfl (takes_of rfl rfl rfl rfl) (di_cons (de_var 0) (di_cons (de_var 2) (di_cons (de_var 4) di_nil)))))
  (dss_cons (ds_asg (de_set rfl rfl hr T.f_set (da_cons (de_var 4) da_nil)) (dg_name 5 sc_is_paper.nd))
  (dss_cons (ds_if (dw_pt (dw_or (dt_notinS rfl hr (de_call h_first_stand hr (by decide) rfl (takes_of rfl rfl rfl rfl) (di_cons (de_var 2) (di_cons (de_var 3) di_nil))) (de_var 5)) (dw_or1 (dt_not (dt_val (de_call h_is_dry hr (by decide) rfl (takes_of rfl rfl rfl rfl) (di_cons (de_var 0) (di_cons (de_var 1) (di_cons (de_var 2) (di_cons (de_var 4) di_nil))))))))))
  (dss_one (ds_ret de_bl))
  dss_nil)
  (dss_one (ds_ret (de_all rfl rfl T.f_all (da_cons (de_lc (own := [("stand", 6)]) rfl sc_is_paper.nd (dj_seq rfl (de_var 4)) (blkOk_by (by kernel_rfl)) (fun _ _ _ _ _ => (dg_name 6 sc_is_paper.nd)) (fun _ _ _ _ _ => dts_nil) (fun _ _ _ _ _ => (de_all rfl rfl T.f_all (da_cons (de_lc (own := [("step", 7)]) rfl sc_is_paper.nd (dj_seq rfl (de_call h_steps_of hr (by decide) rfl takes_none5 (di_cons (de_var 0) (di_cons (de_var 1) (di_cons (de_var 2) (di_cons (de_var 6) di_nil)))))) (blkOk_by (by kernel_rfl)) (fun _ _ _ _ _ => (dg_name 7 sc_is_paper.nd)) (fun _ _ _ _ _ => dts_nil) (fun _ _ _ _ _ => (de_inS rfl hr (de_ix rfl hr (de_var 7) de_int) (de_var 5)))) da_nil)))) da_nil))))))))
theorem c_is_paper {P : Program} {w : World} {K : PySem.W.Frag} {mg : Str → Option Value} {base : Heap} {cls : Nat → Value} (T : Txt K mg cls) (h_first_stand : FnC P w K mg base cls "first_stand" 2 1 m_first_stand) (h_is_dry : FnC P w K mg base cls "is_dry" 4 5 m_is_dry) (h_need_few : FnC P w K mg base cls "need_few" 4 7 m_need_few) (h_need_paper : FnC P w K mg base cls "need_paper" 3 3 m_need_paper) (h_steps_of : FnC P w K mg base cls "steps_of" 4 4 m_steps_of) {f : Addr} {fd : FuncData} (F : Fun K "is_paper" "is_paper" (top 34) f fd) (hm : mg "is_paper" = some (.ref f)) : FnC P w K mg base cls "is_paper" 5 8 m_is_paper :=
  fnC_of F sc_is_paper hm (F.binds fun _ _ _ _ _ _ us hl => match us, hl with | [_, _, _, _, _], _ => rfl) (b_is_paper T h_first_stand h_is_dry h_need_few h_need_paper h_steps_of)
/-! paper_for -/
def N_paper_for : List Str := ["book", "climate", "n", "away", "found"]
theorem sc_paper_for : FnScope N_paper_for ["book", "climate", "n", "away"] (defScope (top 35)) := ⟨rfl, rfl, rfl, by decide +kernel, rfl, by decide +kernel, by decide +kernel⟩
def f_paper_for : SF := (sSeq (sExpr (eCall m_need_few (iCons (eVar 0) (iCons (eVar 1) (iCons (eVar 2) (iCons (eVar 3) iNil))))))
  (sSeq (sAsg (eB bTuple (aCons (eB bSorted (aCons (eCall m_reached (iCons (eVar 0) (iCons (eVar 1) (iCons (eVar 2) (iCons (eLst (aCons (eCall m_first_stand (iCons (eVar 2) (iCons (eVar 3) iNil))) aNil)) iNil))))) aNil)) aNil)) (gN 4))
  (sRet (eIf (tV (eCall m_is_dry (iCons (eVar 0) (iCons (eVar 1) (iCons (eVar 2) (iCons (eVar 4) iNil)))))) (eVar 4) (eC .non)))))
def m_paper_for : List AU.It → M DD := runB 5 f_paper_for
theorem b_paper_for {P : Program} {w : World} {K : PySem.W.Frag} {mg : Str → Option Value} {base : Heap} {cls : Nat → Value} (T : Txt K mg cls) (h_first_stand : FnC P w K mg base cls "first_stand" 2 1 m_first_stand) (h_is_dry : FnC P w K mg base cls "is_dry" 4 5 m_is_dry) (h_need_few : FnC P w K mg base cls "need_few" 4 7 m_need_few) (h_reached : FnC P w K mg base cls "reached" 4 5 m_reached) {f : Addr} : BodyOk P w K mg base cls N_paper_for "paper_for" (top 35) f 7 f_paper_for := by
  intro cdv A outer s H E B hr hK hc hT
  subst hK hc
  exact (dss_cons (ds_expr (de_call h_need_few hr (by decide) rfl (takes_of rfl rfl rfl rfl) (di_cons (de_var 0) (di_cons (de_var 1) (di_cons (de_var 2) (di_cons (de_var 3) di_nil))))))
  (dss_cons (ds_asg (de_tuple rfl T.f_tuple (da_cons (de_sorted rfl rfl T.f_sorted (da_cons (de_call h_reached hr (by decide) rfl (takes_of rfl rfl rfl rfl) (di_cons (de_var 0) (di_cons (de_var 1) (di_cons (de_var 2) (di_cons (de_lst (da_cons (de_call h_first_stand hr (by decide) rfl (takes_of rfl rfl rfl rfl) (di_cons (de_var 2) (di_cons (de_var 3) di_nil))) da_nil)) di_nil))))) da_nil)) da_nil)) (dg_name 4 sc_paper_for.nd))
  (dss_one (ds_ret (de_if (dt_val (de_call h_is_dry hr (by decide) rfl (takes_of rfl rfl rfl rfl) (di_cons (de_var 0) (di_cons (de_var 1) (di_cons (de_var 2) (di_cons (de_var 4) di_nil)))))) (de_var 4) de_non)))))
theorem c_paper_for {P : Program} {w : World} {K : PySem.W.Frag} {mg : Str → Option Value} {base : Heap} {cls : Nat → Value} (T : Txt K mg cls) (h_first_stand : FnC P w K mg base cls "first_stand" 2 1 m_first_stand) (h_is_dry : FnC P w K mg base cls "is_dry" 4 5 m_is_dry) (h_need_few : FnC P w K mg base cls "need_few" 4 7 m_need_few) (h_reached : FnC P w K mg base cls "reached" 4 5 m_reached) {f : Addr} {fd : FuncData} (F : Fun K "paper_for" "paper_for" (top 35) f fd) (hm : mg "paper_for" = some (.ref f)) : FnC P w K mg base cls "paper_for" 4 8 m_paper_for :=
  fnC_of F sc_paper_for hm (F.binds fun _ _ _ _ _ _ us hl => match us, hl with | [_, _, _, _], _ => rfl) (b_paper_for T h_first_stand h_is_dry h_need_few h_reached)
/-! _law_right -/
def N__law_right : List Str := ["_law_source_here", "_law_book_here", "_law_climate", "_law_n", "_law_away", "_law_found", "_law_wet_here", "_law_whole", "_law_value", "_law_turn", "_law_other"]
theorem sc__law_right : FnScope N__law_right ["_law_source_here", "_law_book_here", "_law_climate", "_law_n", "_law_away"] (defScope (top 47)) := ⟨rfl, rfl, rfl, by decide +kernel, rfl, by decide +kernel, by decide +kernel⟩
def f__law_right_b1 : SF := (sIf (tV (eOp opNe (eCall m_is_paper (iCons (eVar 1) (iCons (eVar 2) (iCons (eVar 3) (iCons (eVar 4) (iCons (eVar 8) iNil)))))) (eCall m__law_shows (iCons (eVar 1) (iCons (eVar 2) (iCons (eVar 3) (iCons (eVar 4) (iCons (eVar 8) iNil))))))))
  (sRet (eC (.bl false)))
  sNil)
def f__law_right_b2 : SF := (sSeq (sAsg (eCall m__law_bent (iSrc 0 (iCons (eVar 1) (iCons (eVar 3) (iCons (eVar 7) iNil))))) (gN 10))
  (sIf (tV (eOp opNe (eCall m_is_paper (iCons (eVar 1) (iCons (eVar 2) (iCons (eVar 3) (iCons (eVar 4) (iCons (eVar 10) iNil)))))) (eCall m__law_shows (iCons (eVar 1) (iCons (eVar 2) (iCons (eVar 3) (iCons (eVar 4) (iCons (eVar 10) iNil))))))))
  (sRet (eC (.bl false)))
  sNil))
def f__law_right : SF := (sSeq (sAsg (eCall m_paper_for (iCons (eVar 1) (iCons (eVar 2) (iCons (eVar 3) (iCons (eVar 4) iNil))))) (gN 5))
  (sSeq (sAsg (eCall m__law_wet (iCons (eVar 1) (iCons (eVar 2) (iCons (eVar 3) (iCons (eLst (aCons (eTup (aCons (eC (.int 0)) (aCons (eC (.int 0)) (aCons (eOp opSub (eVar 3) (eVar 4)) (aCons (eC (.bl false)) aNil))))) aNil)) iNil))))) (gN 6))
  (sSeq (sIf (tV (eOp opNe (eOp opIs (eVar 5) (eC .non)) (eOp opIsNot (eVar 6) (eC .non))))
  (sRet (eC (.bl false)))
  sNil)
  (sSeq (sAsg (eB bTuple (aCons (eB bSorted (aCons (eCall m__law_reached (iCons (eVar 1) (iCons (eVar 2) (iCons (eVar 3) (iCons (eLst (aCons (eTup (aCons (eC (.int 0)) (aCons (eC (.int 0)) (aCons (eOp opSub (eVar 3) (eVar 4)) (aCons (eC (.bl false)) aNil))))) aNil)) iNil))))) aNil)) aNil)) (gN 7))
  (sSeq (sIf (tAndD (tV (eOp opIsNot (eVar 5) (eC .non))) (tNotD (tV (eCall m__law_shows (iCons (eVar 1) (iCons (eVar 2) (iCons (eVar 3) (iCons (eVar 4) (iCons (eVar 5) iNil)))))))))
  (sRet (eC (.bl false)))
  sNil)
  (sSeq (sFor (jSeq (eOp opAdd (eLst (aCons (eVar 7) (aCons (eTup aNil) aNil))) (eIf (tV (eOp opIsNot (eVar 5) (eC .non))) (eLst (aCons (eVar 5) aNil)) (eLst aNil)))) (gN 8)
  (f__law_right_b1))
  (sSeq (sFor (jRng1 (aCons (eC (.int 3)) aNil)) (gN 9)
  (f__law_right_b2))
  (sRet (eC (.bl true))))))))))
def m__law_right : List AU.It → M DD := runB 11 f__law_right
theorem b__law_right {P : Program} {w : World} {K : PySem.W.Frag} {mg : Str → Option Value} {base : Heap} {cls : Nat → Value} (T : Txt K mg cls) (h__law_bent : FnC P w K mg base cls "_law_bent" 4 2 m__law_bent) (h__law_reached : FnC P w K mg base cls "_law_reached" 4 3 m__law_reached) (h__law_shows : FnC P w K mg base cls "_law_shows" 5 3 m__law_shows) (h__law_wet : FnC P w K mg base cls "_law_wet" 4 4 m__law_wet) (h_is_paper : FnC P w K mg base cls "is_paper" 5 8 m_is_paper) (h_paper_for : FnC P w K mg base cls "paper_for" 4 8 m_paper_for) {f : Addr} : BodyOk P w K mg base cls N__law_right "_law_right" (top 47) f 8 f__law_right := by
  intro cdv A outer s H E B hr hK hc hT
  subst hK hc
  exact (dss_cons (ds_asg (de_call h_paper_for hr (by decide) rfl (takes_of rfl rfl rfl rfl) (di_cons (de_var 1) (di_cons (de_var 2) (di_cons (de_var 3) (di_cons (de_var 4) di_nil))))) (dg_name 5 sc__law_right.nd))
  (dss_cons (ds_asg (de_call h__law_wet hr (by decide) rfl (takes_of rfl rfl rfl rfl) (di_cons (de_var 1) (di_cons (de_var 2) (di_cons (de_var 3) (di_cons (de_lst (da_cons (de_tup (da_cons de_int (da_cons de_int (da_cons (de_sub (de_var 3) (de_var 4)) (da_cons de_bl da_nil))))) da_nil)) di_nil))))) (dg_name 6 sc__law_right.nd))
  (dss_cons (ds_if (dt_ne rfl hr (de_isN (de_var 5) de_non) (de_notN (de_var 6) de_non))
  (dss_one (ds_ret de_bl))
  dss_nil)
  (dss_cons (ds_asg (de_tuple rfl T.f_tuple (da_cons (de_sorted rfl rfl T.f_sorted (da_cons (de_call h__law_reached hr (by decide) rfl (takes_of rfl rfl rfl rfl) (di_cons (de_var 1) (di_cons (de_var 2) (di_cons (de_var 3) (di_cons (de_lst (da_cons (de_tup (da_cons de_int (da_cons de_int (da_cons (de_sub (de_var 3) (de_var 4)) (da_cons de_bl da_nil))))) da_nil)) di_nil))))) da_nil)) da_nil)) (dg_name 7 sc__law_right.nd))
  (dss_cons (ds_if (dw_pt (dw_and (dt_notN (de_var 5) de_non) (dw_and1 (dt_not (dt_val (de_call h__law_shows hr (by decide) rfl (takes_of rfl rfl rfl rfl) (di_cons (de_var 1) (di_cons (de_var 2) (di_cons (de_var 3) (di_cons (de_var 4) (di_cons (de_var 5) di_nil)))))))))))
  (dss_one (ds_ret de_bl))
  dss_nil)
  (dss_cons (ds_for rfl (passes_of rfl) rfl (dj_seq rfl (de_add rfl (de_lst (da_cons (de_var 7) (da_cons (de_tup da_nil) da_nil))) (de_if (dt_notN (de_var 5) de_non) (de_lst (da_cons (de_var 5) da_nil)) (de_lst da_nil)))) (dg_name 8 sc__law_right.nd)
  (dss_one (ds_if (dt_ne rfl hr (de_call h_is_paper hr (by decide) rfl (takes_of rfl rfl rfl rfl) (di_cons (de_var 1) (di_cons (de_var 2) (di_cons (de_var 3) (di_cons (de_var 4) (di_cons (de_var 8) di_nil)))))) (de_call h__law_shows hr (by decide) rfl (takes_of rfl rfl rfl rfl) (di_cons (de_var 1) (di_cons (de_var 2) (di_cons (de_var 3) (di_cons (de_var 4) (di_cons (de_var 8) di_nil)))))))
  (dss_one (ds_ret de_bl))
  dss_nil)))
  (dss_cons (ds_for rfl (passes_of rfl) rfl (dj_rng1 T.f_range (da_cons de_int da_nil)) (dg_name 9 sc__law_right.nd)
  (dss_cons (ds_asg (de_call h__law_bent hr (by decide) rfl (takes_of rfl rfl rfl rfl) (di_src 0 (di_cons (de_var 1) (di_cons (de_var 3) (di_cons (de_var 7) di_nil))))) (dg_name 10 sc__law_right.nd))
  (dss_one (ds_if (dt_ne rfl hr (de_call h_is_paper hr (by decide) rfl (takes_of rfl rfl rfl rfl) (di_cons (de_var 1) (di_cons (de_var 2) (di_cons (de_var 3) (di_cons (de_var 4) (di_cons (de_var 10) di_nil)))))) (de_call h__law_shows hr (by decide) rfl (takes_of rfl rfl rfl rfl) (di_cons (de_var 1) (di_cons (de_var 2) (di_cons (de_var 3) (di_cons (de_var 4) (di_cons (de_var 10) di_nil)))))))
  (dss_one (ds_ret de_bl))
  dss_nil))))
  (dss_one (ds_ret de_bl)))))))))
theorem c__law_right {P : Program} {w : World} {K : PySem.W.Frag} {mg : Str → Option Value} {base : Heap} {cls : Nat → Value} (T : Txt K mg cls) (h__law_bent : FnC P w K mg base cls "_law_bent" 4 2 m__law_bent) (h__law_reached : FnC P w K mg base cls "_law_reached" 4 3 m__law_reached) (h__law_shows : FnC P w K mg base cls "_law_shows" 5 3 m__law_shows) (h__law_wet : FnC P w K mg base cls "_law_wet" 4 4 m__law_wet) (h_is_paper : FnC P w K mg base cls "is_paper" 5 8 m_is_paper) (h_paper_for : FnC P w K mg base cls "paper_for" 4 8 m_paper_for) {f : Addr} {fd : FuncData} (F : Fun K "_law_right" "_law_right" (top 47) f fd) (hm : mg "_law_right" = some (.ref f)) : FnC P w K mg base cls "_law_right" 5 9 m__law_right :=
  fnC_of F sc__law_right hm (F.binds fun _ _ _ _ _ _ us hl => match us, hl with | [_, _, _, _, _], _ => rfl) (b__law_right T h__law_bent h__law_reached h__law_shows h__law_wet h_is_paper h_paper_for)
end AUL
namespace AUL
open PySem PySem.Spec PyProof.Rows L2 AU
/-! ### books.py, reckoned out -/
theorem ok_plain {n : Nat} {v : DD} (h : okN n v = true) : plain1 v = true := by
  cases v <;> first | rfl | (simp [okN, DD.pure] at h)
theorem ok_inA {n : Nat} : ∀ {xs : List DD}, DD.pureA xs = true → PyData.canLayAll0 (DD.pyA xs) = true → PyData.depthAll (DD.pyA xs) ≤ n → ∀ x ∈ xs, okN n x = true
  | [], _, _, _, x, hx => by cases hx
  | y :: ys, h1, h2, h3, x, hx => by
    simp only [DD.pureA, DD.pyA, PyData.canLayAll0, PyData.depthAll, Bool.and_eq_true] at h1 h2 h3
    rcases List.mem_cons.mp hx with rfl | hx
    · simp only [okN, Bool.and_eq_true, decide_eq_true_eq]
      exact ⟨⟨h1.1, h2.1⟩, by omega⟩
    · exact ok_inA h1.2 h2.2 (by omega) x hx
theorem ok_in {n : Nat} {xs : List DD} (h : okN n (.tup xs) = true) : ∀ x ∈ xs, okN n x = true := by
  simp only [okN, DD.pure, DD.py, PyData.canLay0, PyData.depth, Bool.and_eq_true, decide_eq_true_eq] at h
  exact ok_inA h.1.1 h.1.2 (by omega)
theorem ok_inL {n : Nat} {xs : List DD} (h : okN n (.lst xs) = true) : ∀ x ∈ xs, okN n x = true := by
  simp only [okN, DD.pure, DD.py, PyData.canLay0, PyData.depth, Bool.and_eq_true, decide_eq_true_eq] at h
  exact ok_inA h.1.1 h.1.2 (by omega)
theorem ok_str {n : Nat} {s : Str} (h : okN n (.str s) = true) : PyData.strOk s = true := by
  simp only [okN, DD.pure, DD.py, PyData.canLay0, PyData.depth, Bool.and_eq_true, decide_eq_true_eq] at h
  exact h.1.2
@[simp] theorem ok_leave : PyData.strOk "leave" = true := by decide +kernel
@[simp] theorem ok_take : PyData.strOk "take" = true := by decide +kernel
@[simp] theorem leave_take : (("leave" : Str) = "take") = False := eq_false (by decide +kernel)
@[simp] theorem take_leave : (("take" : Str) = "leave") = False := eq_false (by decide +kernel)
def isFrom (v : DD) (lo hi : Int) : Bool := match v with
  | .int i => decide (lo ≤ i) && decide (i ≤ hi)
  | _ => false
theorem e_is_from (v : DD) (lo hi : Int) (S : Sr) (h : plain1 v = true) : m_is_from [.d v, .d (.int lo), .d (.int hi)] S = some (.ok (.bl (isFrom v lo hi)), S) := by
  cases v with
  | int i =>
    by_cases h1 : lo ≤ i
    · simp [m_is_from, runB, env0, f_is_from, isFrom, h1]
    · simp [m_is_from, runB, env0, f_is_from, isFrom, h1]
  | raw v => cases h
  | dct k v => cases h
  | set k => cases h
  | _ => simp [m_is_from, runB, env0, f_is_from, isFrom]
/-- what a row must be -/
def entryOk (v : DD) (moods look : Int) : Bool := match v with
  | .tup [.str s, x] => (decide (s = "leave") || decide (s = "take")) && !(decide (look % 3 = 0) && decide (s = "take")) && isFrom x 0 (moods - 1)
  | _ => false
theorem e_is_entry {n : Nat} (v : DD) (moods look : Int) (S : Sr) (h : okN n v = true) : m_is_entry [.d v, .d (.int moods), .d (.int look)] S = some (.ok (.bl (entryOk v moods look)), S) := by
  cases v with
  | raw v => simp [okN, DD.pure] at h
  | dct k v => simp [okN, DD.pure] at h
  | set k => simp [okN, DD.pure] at h
  | tup xs =>
    have hi := ok_in h
    match xs, hi with
    | [], hi => simp [m_is_entry, runB, env0, f_is_entry, entryOk]
    | [a], hi => simp [m_is_entry, runB, env0, f_is_entry, entryOk]
    | a :: b :: c :: r, hi =>
      have : ¬ ((r.length : Int) + 1 + 1 + 1 = 2) := by omega
      simp [m_is_entry, runB, env0, f_is_entry, entryOk, this]
    | [a, b], hi =>
      have ha := hi a (by simp)
      have hb := hi b (by simp)
      have hpa := ok_plain ha
      have hpb := ok_plain hb
      have e0 : atI [a, b] 0 = some a := AU.atI_nat (i := 0) rfl
      have e1 : atI [a, b] 1 = some b := AU.atI_nat (i := 1) rfl
      cases a with
      | str s =>
        have hs := ok_str ha
        have e2 : opNotIn (.str s) (.tup [.str "leave", .str "take"]) = AU.ret (.bl (!decide (s ∈ (["leave", "take"] : List Str)))) := opNotIn_strs (xs := ["leave", "take"]) hs (by intro y hy; simp at hy; rcases hy with rfl | rfl <;> simp)
        have e3 : ∀ S, m_is_from [.d b, .d (.int 0), .d (.int (moods - 1))] S = some (.ok (.bl (isFrom b 0 (moods - 1))), S) := fun S => e_is_from b 0 (moods - 1) S hpb
        by_cases h1 : s = "leave"
        · subst h1
          by_cases h3 : look % 3 = 0
          · simp [m_is_entry, runB, env0, f_is_entry, entryOk, e0, e1, e2, e3, h3]
          · simp [m_is_entry, runB, env0, f_is_entry, entryOk, e0, e1, e2, e3, h3]
        · by_cases h2 : s = "take"
          · subst h2
            by_cases h3 : look % 3 = 0
            · simp [m_is_entry, runB, env0, f_is_entry, entryOk, e0, e1, e2, e3, h3]
            · simp [m_is_entry, runB, env0, f_is_entry, entryOk, e0, e1, e2, e3, h3]
          · simp [m_is_entry, runB, env0, f_is_entry, entryOk, e0, e1, e2, e3, h1, h2]
      | raw v => cases hpa
      | dct k v => cases hpa
      | set k => cases hpa
      | _ => simp [m_is_entry, runB, env0, f_is_entry, entryOk, e0, e1]
  | _ => simp [m_is_entry, runB, env0, f_is_entry, entryOk]
/-- what a mood must be -/
def moodOk (v : DD) (moods : Int) : Bool := match v with
  | .tup xs => decide (xs.length = 6) && ((List.range xs.length).zip xs).all fun p => entryOk p.2 moods (p.1 : Nat)
  | _ => false
def bookOk (v : DD) : Bool := match v with
  | .tup xs => (decide (xs.length = 1) || decide (xs.length = 2)) && xs.all fun m => moodOk m xs.length
  | _ => false
theorem e_is_mood {n : Nat} (v : DD) (moods : Int) (S : Sr) (h : okN n v = true) : m_is_mood [.d v, .d (.int moods)] S = some (.ok (.bl (moodOk v moods)), S) := by
  cases v with
  | raw v => simp [okN, DD.pure] at h
  | dct k v => simp [okN, DD.pure] at h
  | set k => simp [okN, DD.pure] at h
  | tup xs =>
    have hi := ok_in h
    by_cases hl : xs.length = 6
    · have hz : szOk xs.length = true := by rw [hl]; rfl
      have hl' : ((xs.length : Int) = 6) = True := eq_true (by omega)
      simp [m_is_mood, runB, env0, f_is_mood, enumZ, ← List.range_eq_range', hl', hz]
      rw [lcD_mapF (fun p : Nat × DD => DD.bl (entryOk p.2 moods (p.1 : Nat))) fun p hp => ⟨_, rfl, ?_⟩]
      · simp [bAll_map, moodOk, hl]
      · simp [e_is_entry p.2 moods (p.1 : Nat) (0, 0) (hi p.2 (List.of_mem_zip hp).2)]
    · have hl' : ((xs.length : Int) = 6) = False := eq_false (by omega)
      simp [m_is_mood, runB, env0, f_is_mood, moodOk, hl', hl]
  | _ => simp [m_is_mood, runB, env0, f_is_mood, moodOk]
theorem e_has_book {n : Nat} (v : DD) (S : Sr) (h : okN n v = true) : m_has_book [.d v] S = some (.ok (.bl (bookOk v)), S) := by
  cases v with
  | raw v => simp [okN, DD.pure] at h
  | dct k v => simp [okN, DD.pure] at h
  | set k => simp [okN, DD.pure] at h
  | tup xs =>
    have hi := ok_in h
    by_cases hl : xs.length = 1 ∨ xs.length = 2
    · have hz : szOk xs.length = true := by rcases hl with e | e <;> rw [e] <;> rfl
      have h1 : ((1 : Int) ≤ xs.length) = True := eq_true (by omega)
      have h2 : ((xs.length : Int) ≤ 2) = True := eq_true (by omega)
      simp [m_has_book, runB, env0, f_has_book, h1, h2, hz]
      have e0 : xs = xs.map id := by simp
      rw [show lcD (gN 1) tYesD = lcD (gN 1) tYesD from rfl]
      conv => lhs; rw [e0]
      rw [lcD_mapF (h := id) (fun m => DD.bl (moodOk m xs.length)) fun p hp => ⟨_, rfl, ?_⟩]
      · simp [bAll_map, bookOk, hl]
      · simp [e_is_mood p xs.length (0, 0) (hi p hp)]
    · have h1 : (decide ((1 : Int) ≤ xs.length) && decide ((xs.length : Int) ≤ 2)) = false := by
        simp
        omega
      by_cases h3 : (1 : Int) ≤ xs.length
      · have h4 : ¬ ((xs.length : Int) ≤ 2) := by omega
        simp [m_has_book, runB, env0, f_has_book, h3, h4, bookOk, hl]
      · simp [m_has_book, runB, env0, f_has_book, h3, bookOk, hl]
  | _ => simp [m_has_book, runB, env0, f_has_book, bookOk]
end AUL
namespace AUL
open PySem PySem.Spec PyProof.Rows L2 AU
abbrev Bk := List (List (Bool × Nat))
def rowD (r : Bool × Nat) : DD := .tup [.str (if r.1 = true then "take" else "leave"), .int (r.2 : Nat)]
def moodD (m : List (Bool × Nat)) : DD := .tup (m.map rowD)
def bookD (b : Bk) : DD := .tup (b.map moodD)
structure WF (b : Bk) : Prop where
  len : b.length = 1 ∨ b.length = 2
  six : ∀ m ∈ b, m.length = 6
  row : ∀ m ∈ b, ∀ (i : Nat) (r : Bool × Nat), m[i]? = some r → (i % 3 = 0 → r.1 = false) ∧ r.2 < b.length
theorem ok_rowD (r : Bool × Nat) : okN 1 (rowD r) = true := okN_tup fun x hx => by
  simp only [List.mem_cons, List.not_mem_nil, or_false] at hx
  rcases hx with rfl | rfl
  · exact okN_str (by split <;> simp)
  · exact okN_int _
theorem ok_moodD (m : List (Bool × Nat)) : okN 2 (moodD m) = true := okN_tup fun x hx => by
  obtain ⟨r, _, rfl⟩ := List.mem_map.mp hx
  exact ok_rowD r
theorem ok_bookD (b : Bk) : okN 3 (bookD b) = true := okN_tup fun x hx => by
  obtain ⟨r, _, rfl⟩ := List.mem_map.mp hx
  exact ok_moodD r
theorem WF.ok {b : Bk} (w : WF b) : bookOk (bookD b) = true := by
  unfold bookOk bookD
  simp only [List.length_map, Bool.and_eq_true, Bool.or_eq_true, decide_eq_true_eq, List.all_eq_true]
  refine ⟨w.len, fun x hx => ?_⟩
  obtain ⟨m, hm, rfl⟩ := List.mem_map.mp hx
  unfold moodOk moodD
  simp only [List.length_map, Bool.and_eq_true, decide_eq_true_eq, List.all_eq_true]
  refine ⟨w.six m hm, fun p hp => ?_⟩
  obtain ⟨i, hi, e⟩ := List.mem_iff_getElem.mp hp
  have hi' : i < m.length := by
    simp at hi
    exact hi
  have e1 : p = (i, rowD m[i]) := by
    rw [← e]
    simp
  rw [e1]
  obtain ⟨h1, h2⟩ := w.row m hm i m[i] (List.getElem?_eq_getElem hi')
  unfold entryOk rowD isFrom
  have h3 : ((i : Int) % 3 = 0) → i % 3 = 0 := fun z => by omega
  cases hb : (m[i]).1 with
  | true =>
    have h4 : ¬ ((i : Int) % 3 = 0) := fun z => by
      have := h1 (h3 z)
      rw [hb] at this
      cases this
    simp [h4]
    omega
  | false =>
    simp
    omega
theorem ok_bls (ws : List Bool) : okN 1 (.tup (ws.map DD.bl)) = true := okN_tup fun x hx => by
  obtain ⟨b, _, rfl⟩ := List.mem_map.mp hx
  exact okN_bl b
theorem ok_blsL (ws : List Bool) : okN 1 (.lst (ws.map DD.bl)) = true := okN_lst fun x hx => by
  obtain ⟨b, _, rfl⟩ := List.mem_map.mp hx
  exact okN_bl b
theorem mem_rangeZip {α : Type} {ws : List α} {p : Nat × α} (h : p ∈ (List.range ws.length).zip ws) : ws[p.1]? = some p.2 := by
  obtain ⟨i, hi, e⟩ := List.mem_iff_getElem.mp h
  simp at hi
  have : p = (i, ws[i]) := by rw [← e]; simp
  rw [this]
  exact List.getElem?_eq_getElem hi
end AUL
namespace AUL
open PySem PySem.Spec PyProof.Rows L2 AU
theorem opPow_int (i j : Int) : opPow (.int i) (.int j) = if (decide (0 ≤ j) && decide (j ≤ 1000) && decide (i.natAbs < 1000)) = true then AU.ret (.int (i ^ j.toNat)) else stk := rfl
theorem e_draw (many : Int) (S : Sr) (h0 : 0 < many) (h1 : many < 10 ^ 40) : ∃ r S', m__law_draw [.s, .d (.int many)] S = some (.ok (.int r), S') ∧ 0 ≤ r ∧ r < many := by
  have hc : cDiv S.1 many = true := by
    unfold cDiv
    simp [h0]
    exact h1
  by_cases hS : 0 < S.1
  · refine ⟨S.1 % many, (S.1 / many, S.2), ?_, Int.emod_nonneg _ (by omega), Int.emod_lt_of_pos _ h0⟩
    simp [m__law_draw, runB, env0, f__law_draw, hS, h0, hc]
  · have hy1 := Int.emod_nonneg (S.2 * 48271 + 83) (show (2147483237 : Int) ≠ 0 by decide)
    have hy2 := Int.emod_lt_of_pos (S.2 * 48271 + 83) (show (0 : Int) < 2147483237 by decide)
    have hd : cDiv ((S.2 * 48271 + 83) % 2147483237) 41 = true := by unfold cDiv; decide
    have hd2 : ∀ z, cDiv z 32 = true := fun z => by unfold cDiv; decide
    have hm : ((S.2 * 48271 + 83) % 2147483237).natAbs < 18446744073709551616 := by omega
    refine ⟨(((S.2 * 48271 + 83) % 2147483237 * ((S.2 * 48271 + 83) % 2147483237 / 41 + 26)) % 2147483179 / 32) % many, (S.1, (S.2 * 48271 + 83) % 2147483237), ?_, Int.emod_nonneg _ (by omega), Int.emod_lt_of_pos _ h0⟩
    simp [m__law_draw, runB, env0, f__law_draw, hS, h0, hd, hd2, hm]
theorem e_choice (xs : List DD) (S : Sr) (h : xs ≠ []) (h2 : xs.length ≤ 1000) : ∃ x S', m__law_choice [.s, .d (.lst xs)] S = some (.ok x, S') ∧ x ∈ xs := by
  have hl : 0 < xs.length := List.length_pos_iff.mpr h
  obtain ⟨r, S', e, r0, r1⟩ := e_draw xs.length S (by omega) (by omega)
  have hr : r.toNat < xs.length := by omega
  have e2 : atI xs r = some xs[r.toNat] := by
    have := AU.atI_nat (xs := xs) (i := r.toNat) (List.getElem?_eq_getElem hr)
    rwa [show ((r.toNat : Nat) : Int) = r by omega] at this
  exact ⟨xs[r.toNat], S', by simp [m__law_choice, runB, env0, f__law_choice, e, e2], List.getElem_mem hr⟩
theorem e_book_b1 (moods : Nat) (x1 x2 x3 : DD) (m1 : moods = 1 ∨ moods = 2) (look : Nat) (hlk : look < 6) (rows : List (Bool × Nat)) (x6 : Option AU.It) (S : Sr) (hr : rows.length ≤ 6) :
    ∃ r : Bool × Nat, ∃ x6' S', f__law_book_b1 [some .s, some (.d (.int moods)), some (.d x2), some (.d x3), some (.d (.tup (rows.map rowD))), some (.d (.int look)), x6] S = some (.nx [some .s, some (.d (.int moods)), some (.d x2), some (.d x3), some (.d (.tup ((rows ++ [r]).map rowD))), some (.d (.int look)), x6'] S') ∧ (look % 3 = 0 → r.1 = false) ∧ r.2 < moods := by
  have hz : szOk (rows.length + 1) = true := decide_eq_true (by omega)
  obtain ⟨some_, hs, hne, hle, hmem⟩ : ∃ some_ : List DD, (∀ S, (eIf (tV (eOp opEq (eOp opMod (eVar 5) (eC (.int 3))) (eC (.int 0)))) (eLst (aCons (eC (.str "leave")) aNil)) (eSl (eLst (aCons (eC (.str "take")) (aCons (eC (.str "leave")) (aCons (eC (.str "take")) (aCons (eC (.str "take")) aNil))))) (oSome (eIf (tV (eOp opGt (eVar 5) (eC (.int 3)))) (eC (.int 0)) (eC (.int 1)))) (oSome (eC (.int 4))))) [some .s, some (.d (.int moods)), some (.d x2), some (.d x3), some (.d (.tup (rows.map rowD))), some (.d (.int look)), x6] S = some (.ok (.lst some_), S)) ∧
      some_ ≠ [] ∧ some_.length ≤ 1000 ∧ ∀ x ∈ some_, ∃ t : Bool, x = .str (if t = true then "take" else "leave") ∧ (look % 3 = 0 → t = false) := by
    by_cases h3 : look % 3 = 0
    · have h3' : (look : Int) % 3 = 0 := by omega
      refine ⟨[.str "leave"], fun S => by simp [h3'], by simp, by simp, fun x hx => ⟨false, by simpa using hx, fun _ => rfl⟩⟩
    · have h3' : ¬ ((look : Int) % 3 = 0) := by omega
      by_cases h4 : 3 < look
      · have h4' : (3 : Int) < look := by omega
        refine ⟨[.str "take", .str "leave", .str "take", .str "take"], fun S => by simp [h3', h4']; rfl, by simp, by simp, fun x hx => ?_⟩
        simp only [List.mem_cons, List.not_mem_nil, or_false] at hx
        rcases hx with rfl | rfl | rfl | rfl
        · exact ⟨true, rfl, fun z => absurd z h3⟩
        · exact ⟨false, rfl, fun z => absurd z h3⟩
        · exact ⟨true, rfl, fun z => absurd z h3⟩
        · exact ⟨true, rfl, fun z => absurd z h3⟩
      · have h4' : ¬ (3 : Int) < look := by omega
        refine ⟨[.str "leave", .str "take", .str "take"], fun S => by simp [h3', h4']; rfl, by simp, by simp, fun x hx => ?_⟩
        simp only [List.mem_cons, List.not_mem_nil, or_false] at hx
        rcases hx with rfl | rfl | rfl
        · exact ⟨false, rfl, fun z => absurd z h3⟩
        · exact ⟨true, rfl, fun z => absurd z h3⟩
        · exact ⟨true, rfl, fun z => absurd z h3⟩
  obtain ⟨x, S1, e1, hx⟩ := e_choice some_ S hne hle
  obtain ⟨t, rfl, ht⟩ := hmem x hx
  obtain ⟨r, S2, e2, r0, r1⟩ := e_draw moods S1 (by omega) (by omega)
  refine ⟨(t, r.toNat), some (.d (.lst some_)), S2, ?_, ht, by omega⟩
  have er : ((r.toNat : Nat) : Int) = r := by omega
  unfold f__law_book_b1
  rw [sSeq_app, sAsg_app, thenS_app, hs]
  simp [e1, e2, hz, rowD, er]
theorem e_book_l1 (moods : Nat) (x2 x3 : DD) (m1 : moods = 1 ∨ moods = 2) : ∀ (k : Nat) (rows : List (Bool × Nat)) (x5 x6 : Option AU.It) (S : Sr), rows.length + k = 6 → (∀ (i : Nat) (r : Bool × Nat), rows[i]? = some r → (i % 3 = 0 → r.1 = false) ∧ r.2 < moods) →
    ∃ (rows' : List (Bool × Nat)) (x5' x6' : Option AU.It) (S' : Sr), forD (gN 5) f__law_book_b1 ((List.range' rows.length k).map fun i => DD.int ((0 : Int) + (i : Nat))) [some .s, some (.d (.int moods)), some (.d x2), some (.d x3), some (.d (.tup (rows.map rowD))), x5, x6] S =
      some (.nx [some .s, some (.d (.int moods)), some (.d x2), some (.d x3), some (.d (.tup (rows'.map rowD))), x5', x6'] S') ∧ rows'.length = 6 ∧ (∀ (i : Nat) (r : Bool × Nat), rows'[i]? = some r → (i % 3 = 0 → r.1 = false) ∧ r.2 < moods)
  | 0, rows, x5, x6, S, hl, hi => ⟨rows, x5, x6, S, by simp [forD], by omega, hi⟩
  | k + 1, rows, x5, x6, S, hl, hi => by
    obtain ⟨r, x6', S1, e, h1, h2⟩ := e_book_b1 moods x2 x2 x3 m1 rows.length (by omega) rows x6 S (by omega)
    obtain ⟨rows', x5', x6'', S', ih, h3, h4⟩ := e_book_l1 moods x2 x3 m1 k (rows ++ [r]) (some (.d (.int (rows.length : Nat)))) x6' S1 (by simp; omega) fun i q hq => by
      rw [List.getElem?_append] at hq
      split at hq
      · exact hi i q hq
      · rename_i hge
        have : i = rows.length := by
          have := (List.getElem?_eq_some_iff.mp hq).1
          simp at this
          omega
        subst this
        simp at hq
        subst hq
        exact ⟨h1, h2⟩
    refine ⟨rows', x5', x6'', S', ?_, h3, h4⟩
    simp at ih e
    simp [List.range'_succ, forD, e, ih]
theorem rng6 (n : Nat) : rngD 0 n = (List.range' 0 n).map fun i => DD.int ((0 : Int) + (i : Nat)) := by
  unfold rngD
  rw [List.range_eq_range']
theorem e_book_b2 (moods : Nat) (m1 : moods = 1 ∨ moods = 2) (bk : Bk) (x3 x4 x5 x6 : Option AU.It) (S : Sr) (hb : bk.length ≤ 2) (d3 : DD) :
    ∃ (m : List (Bool × Nat)) (x4' x5' x6' : Option AU.It) (S' : Sr), f__law_book_b2 [some .s, some (.d (.int moods)), some (.d (bookD bk)), some (.d d3), x4, x5, x6] S = some (.nx [some .s, some (.d (.int moods)), some (.d (bookD (bk ++ [m]))), some (.d d3), x4', x5', x6'] S') ∧
      m.length = 6 ∧ (∀ (i : Nat) (r : Bool × Nat), m[i]? = some r → (i % 3 = 0 → r.1 = false) ∧ r.2 < moods) := by
  obtain ⟨rows', x5', x6', S', e, h1, h2⟩ := e_book_l1 moods (bookD bk) d3 m1 6 [] x5 x6 S rfl fun i r h => by simp at h
  have hz : szOk (bk.length + 1) = true := decide_eq_true (by omega)
  refine ⟨rows', some (.d (.tup (rows'.map rowD))), x5', x6', S', ?_, h1, h2⟩
  unfold f__law_book_b2
  simp [bookD] at e
  simp [rng6, e, bookD, hz, moodD]
theorem e_book_l2 (moods : Nat) (m1 : moods = 1 ∨ moods = 2) : ∀ (k : Nat) (bk : Bk) (x3 x4 x5 x6 : Option AU.It) (S : Sr), bk.length + k = moods → (∀ m ∈ bk, m.length = 6 ∧ ∀ (i : Nat) (r : Bool × Nat), m[i]? = some r → (i % 3 = 0 → r.1 = false) ∧ r.2 < moods) →
    ∃ (bk' : Bk) (x3' x4' x5' x6' : Option AU.It) (S' : Sr), forD (gN 3) f__law_book_b2 ((List.range' bk.length k).map fun i => DD.int ((0 : Int) + (i : Nat))) [some .s, some (.d (.int moods)), some (.d (bookD bk)), x3, x4, x5, x6] S =
      some (.nx [some .s, some (.d (.int moods)), some (.d (bookD bk')), x3', x4', x5', x6'] S') ∧ bk'.length = moods ∧ (∀ m ∈ bk', m.length = 6 ∧ ∀ (i : Nat) (r : Bool × Nat), m[i]? = some r → (i % 3 = 0 → r.1 = false) ∧ r.2 < moods)
  | 0, bk, x3, x4, x5, x6, S, hl, hi => ⟨bk, x3, x4, x5, x6, S, by simp [forD], by omega, hi⟩
  | k + 1, bk, x3, x4, x5, x6, S, hl, hi => by
    obtain ⟨m, x4', x5', x6', S1, e, h1, h2⟩ := e_book_b2 moods m1 bk x3 x4 x5 x6 S (by rcases m1 with z | z <;> omega) (.int (bk.length : Nat))
    obtain ⟨bk', y3, y4, y5, y6, S', ih, h3, h4⟩ := e_book_l2 moods m1 k (bk ++ [m]) (some (.d (.int (bk.length : Nat)))) x4' x5' x6' S1 (by rw [List.length_append, List.length_singleton]; omega) fun q hq => by
      rcases List.mem_append.mp hq with hq | hq
      · exact hi q hq
      · rw [List.mem_singleton.mp hq]
        exact ⟨h1, h2⟩
    refine ⟨bk', y3, y4, y5, y6, S', ?_, h3, h4⟩
    simp at ih e
    simp [List.range'_succ, forD, e, ih]
theorem e_book (S : Sr) : ∃ (b : Bk) (S' : Sr), m__law_book [.s] S = some (.ok (bookD b), S') ∧ WF b := by
  obtain ⟨r, S1, e1, r0, r1⟩ := e_draw 2 S (by decide) (by decide)
  obtain ⟨moods, hm, m1⟩ : ∃ moods : Nat, 1 + r = (moods : Int) ∧ (moods = 1 ∨ moods = 2) := ⟨(1 + r).toNat, by omega, by omega⟩
  obtain ⟨b, x3, x4, x5, x6, S', e2, h1, h2⟩ := e_book_l2 moods m1 moods [] none none none none S1 (by simp) fun m hm => by cases hm
  refine ⟨b, S', ?_, ⟨by rw [h1]; exact m1, fun m hm => (h2 m hm).1, fun m hm i r h => by rw [h1]; exact (h2 m hm).2 i r h⟩⟩
  have hz : ((-100000 : Int) ≤ moods) = True := eq_true (by omega)
  have hz2 : ((moods : Int) ≤ 100000) = True := eq_true (by rcases m1 with z | z <;> omega)
  simp [bookD] at e2
  simp [m__law_book, runB, env0, f__law_book, e1, hm, rng6, hz, hz2, e2, bookD]
end AUL
namespace AUL
open PySem PySem.Spec PyProof.Rows L2 AU
theorem e_need_book {n : Nat} (v : DD) (S : Sr) (h : okN n v = true) : m_need_book [.d v] S = if bookOk v = true then some (.ok .non, S) else some (.error ⟨kx_InvalidBook, none⟩, S) := by
  have e := e_has_book v (0, 0) h
  by_cases hb : bookOk v = true
  · simp [m_need_book, runB, env0, f_need_book, e, hb]
  · simp [m_need_book, runB, env0, f_need_book, e, hb]
theorem e_need_number (v : DD) (lo hi : Int) (S : Sr) (h : plain1 v = true) : m_need_number [.d v, .d (.int lo), .d (.int hi)] S = if isFrom v lo hi = true then some (.ok .non, S) else some (.error ⟨kx_InvalidNumber, none⟩, S) := by
  have e := e_is_from v lo hi (0, 0) h
  by_cases hb : isFrom v lo hi = true
  · simp [m_need_number, runB, env0, f_need_number, e, hb]
  · simp [m_need_number, runB, env0, f_need_number, e, hb]
def rowAt (b : Bk) (m l : Nat) : Bool × Nat := ((b[m]?.getD [])[l]?).getD (false, 0)
def lookN (rain : Bool) (here : Int) : Nat := 3 * (if rain = true then 1 else 0) + (if here < 2 then here.toNat else 2)
theorem e_look_of (rain : Bool) (here : Int) (S : Sr) (h : 0 ≤ here) : m_look_of [.d (.bl rain), .d (.int here)] S = some (.ok (.int (lookN rain here : Nat)), S) := by
  have e : ((3 : Int) * (if rain = true then 1 else 0) + minI here 2) = (lookN rain here : Nat) := by
    unfold lookN minI
    cases rain <;> by_cases h2 : here < 2
    all_goals simp [h2]
    all_goals first | omega | (split <;> omega)
  simp [m_look_of, runB, env0, f_look_of]
  exact e
theorem rowAt_get {b : Bk} (w : WF b) {m l : Nat} (hm : m < b.length) (hl : l < 6) : ∃ ms, b[m]? = some ms ∧ ms[l]? = some (rowAt b m l) ∧ (l % 3 = 0 → (rowAt b m l).1 = false) ∧ (rowAt b m l).2 < b.length := by
  have h1 : b[m]? = some b[m] := List.getElem?_eq_getElem hm
  have h6 := w.six b[m] (List.getElem_mem hm)
  have h2 : b[m][l]? = some (b[m][l]'(by omega)) := List.getElem?_eq_getElem (by omega)
  have e : rowAt b m l = b[m][l]'(by omega) := by
    unfold rowAt
    rw [h1]
    simp [h2]
  rw [e]
  exact ⟨b[m], h1, h2, w.row b[m] (List.getElem_mem hm) l _ h2⟩
def stepW (b : Bk) (n : Int) (m : Nat) (here : Int) (rain : Bool) : Bool × Nat × Int :=
  let r := rowAt b m (lookN rain here)
  (r.1, r.2, n - here + (if r.1 = true then 1 else 0))
theorem look_lt (rain : Bool) {here : Int} (h : 0 ≤ here) : lookN rain here < 6 := by
  unfold lookN
  cases rain <;> simp <;> split <;> omega
theorem stepW_ok {b : Bk} (w : WF b) {n here : Int} {m : Nat} (rain : Bool) (hm : m < b.length) (h0 : 0 ≤ here) (hn : here ≤ n) : (stepW b n m here rain).2.1 < b.length ∧ 0 ≤ (stepW b n m here rain).2.2 ∧ (stepW b n m here rain).2.2 ≤ n ∧ ((stepW b n m here rain).1 = true → 1 ≤ here) := by
  obtain ⟨ms, h1, h2, h3, h4⟩ := rowAt_get w hm (look_lt rain h0)
  unfold stepW
  have h5 : (rowAt b m (lookN rain here)).1 = true → 1 ≤ here := fun e => by
    apply Classical.byContradiction
    intro z
    have h6 : lookN rain here % 3 = 0 := by
      have : here = 0 := by omega
      subst this
      unfold lookN
      cases rain <;> rfl
    rw [h3 h6] at e
    cases e
  refine ⟨h4, ?_, ?_, h5⟩
  · simp only
    split <;> omega
  · simp only
    split
    · rename_i e
      have := h5 e
      omega
    · omega
theorem e_walk_of {b : Bk} (w : WF b) {n here : Int} {m : Nat} (place : Int) (rain : Bool) (S : Sr) (hm : m < b.length) (h0 : 0 ≤ here) :
    m_walk_of [.d (bookD b), .d (.int n), .d (.tup [.int place, .int (m : Nat), .int here]), .d (.bl rain)] S =
      some (.ok (.tup [.bl (stepW b n m here rain).1, .tup [.int (1 - place), .int ((stepW b n m here rain).2.1 : Nat), .int (stepW b n m here rain).2.2]]), S) := by
  obtain ⟨ms, h1, h2, h3, h4⟩ := rowAt_get w hm (look_lt rain h0)
  have e1 : atI (b.map moodD) (m : Nat) = some (moodD ms) := AU.atI_nat (by rw [List.getElem?_map, h1]; rfl)
  have e2 : atI (ms.map rowD) (lookN rain here : Nat) = some (rowD (rowAt b m (lookN rain here))) := AU.atI_nat (by rw [List.getElem?_map, h2]; rfl)
  have e3 := e_look_of rain here (0, 0) h0
  cases hr : (rowAt b m (lookN rain here)).1 with
  | true => simp [m_walk_of, runB, env0, f_walk_of, bookD, e1, e3, moodD, e2, rowD, hr, stepW]
  | false => simp [m_walk_of, runB, env0, f_walk_of, bookD, e1, e3, moodD, e2, rowD, hr, stepW]
def walkL (b : Bk) (n : Int) : Nat → Int → List Bool → List Bool × Nat × Int
  | m, here, [] => ([], m, here)
  | m, here, r :: rs => ((stepW b n m here r).1 :: (walkL b n (stepW b n m here r).2.1 (stepW b n m here r).2.2 rs).1, (walkL b n (stepW b n m here r).2.1 (stepW b n m here r).2.2 rs).2)
def flipN : Nat → Int → Int
  | 0, p => p
  | k + 1, p => flipN k (1 - p)
theorem walkL_len (b : Bk) (n : Int) : ∀ (ws : List Bool) (m : Nat) (here : Int), (walkL b n m here ws).1.length = ws.length
  | [], _, _ => rfl
  | r :: rs, m, here => by simp [walkL, walkL_len b n rs]
theorem flip_par : ∀ (k : Nat) (p : Int), p = 0 ∨ p = 1 → flipN k p = if k % 2 = 0 then p else 1 - p
  | 0, p, _ => by simp [flipN]
  | k + 1, p, h => by
    unfold flipN
    rw [flip_par k (1 - p) (by omega)]
    by_cases hk : k % 2 = 0
    · have : ¬ ((k + 1) % 2 = 0) := by omega
      simp [hk, this]
    · have : (k + 1) % 2 = 0 := by omega
      simp [hk, this]
      omega
theorem atI_some {α : Type} {xs : List α} {k : Nat} (h : k < xs.length) : L2.atI xs (k : Int) = some xs[k] := by
  unfold L2.atI ixN
  rw [if_pos (by omega), if_pos (by omega)]
  simp [h]
theorem e_source (ns : List Int) (k : Nat) (S : Sr) : ∃ x y, m__law_source [.sc ns, .d (.int (k : Nat))] S = some (.ok [.int x, .int y], S) := by
  by_cases h : k < ns.length
  · have h' : ((k : Int) < ns.length) = True := eq_true (by omega)
    have e1 : L2.atI ns (k : Int) = some ns[k] := atI_some h
    by_cases h2 : (if ns[k] < 0 then -ns[k] else ns[k]) > 100000000000000000
    · simp [m__law_source, AU.runN, env0, f__law_source, h', e1, bAbs, opPow_int, h2]
    · simp [m__law_source, AU.runN, env0, f__law_source, h', e1, bAbs, opPow_int, h2]
  · have h' : ((k : Int) < ns.length) = False := eq_false (by omega)
    by_cases h2 : (113 * (k : Int) + 67) > 100000000000000000
    · simp [m__law_source, AU.runN, env0, f__law_source, h', bAbs, opPow_int, h2]
    · simp [m__law_source, AU.runN, env0, f__law_source, h', bAbs, opPow_int, h2]
def nsB : Option AU.It → Bool
  | some .s => false
  | _ => true
theorem nsB_n : nsB none = true := rfl
theorem nsB_d (d : DD) : nsB (some (.d d)) = true := rfl
theorem nsB_sc (d : List Int) : nsB (some (.sc d)) = true := rfl
theorem noS_eq (env : Env) : noS env = env.all nsB := by
  unfold noS
  congr 1
theorem rng_item {n i : Nat} {d : DD} (h : (rngD 0 n)[i]? = some d) : i < n ∧ d = .int (i : Nat) := by
  unfold rngD at h
  rw [List.getElem?_map] at h
  by_cases hi : i < n
  · rw [List.getElem?_range hi] at h
    have := Option.some.inj h
    refine ⟨hi, ?_⟩
    rw [← this]
    simp
  · rw [List.getElem?_eq_none (by rw [List.length_range]; omega)] at h
    cases h
end AUL
namespace AUL
open PySem PySem.Spec PyProof.Rows L2 AU
theorem putK_app (i : Nat) (xs : List DD) (d : DD) (j : Int) (env : Env) (S : Sr) : AU.putK i xs (d, .int j) env S = (ixN xs.length j).map fun k => .nx (env.set i (some (.l (xs.set k d)))) S := rfl
@[simp] theorem ix20 : ixN 2 0 = some 0 := rfl
@[simp] theorem ix21 : ixN 2 1 = some 1 := rfl
@[simp] theorem at20 (x y : DD) : atI [x, y] 0 = some x := AU.atI_nat (i := 0) rfl
@[simp] theorem at21 (x y : DD) : atI [x, y] 1 = some y := AU.atI_nat (i := 1) rfl
theorem e_deed {b : Bk} (w : WF b) {here : Int} {m : Nat} (rain : Bool) (S : Sr) (hm : m < b.length) (h0 : 0 ≤ here) : m__law_deed [.d (bookD b), .d (.int (m : Nat)), .d (.int here), .d (.bl rain)] S = some (.ok (rowD (rowAt b m (lookN rain here))), S) := by
  obtain ⟨ms, h1, h2, h3, h4⟩ := rowAt_get w hm (look_lt rain h0)
  have e1 : atI (b.map moodD) (m : Nat) = some (moodD ms) := AU.atI_nat (by rw [List.getElem?_map, h1]; rfl)
  have e2 : atI (ms.map rowD) (lookN rain here : Nat) = some (rowD (rowAt b m (lookN rain here))) := AU.atI_nat (by rw [List.getElem?_map, h2]; rfl)
  have e3 : ((if rain = true then (3 : Int) else 0) + (if here < 2 then here else 2)) = (lookN rain here : Nat) := by
    unfold lookN
    cases rain <;> by_cases h2 : here < 2
    all_goals simp [h2]
    all_goals omega
  rw [← e3] at e2
  by_cases h5 : here < 2
  · cases rain with
    | true =>
      simp [h5] at e2
      simp [m__law_deed, runB, env0, f__law_deed, bookD, e1, moodD, h5, e2]
    | false =>
      simp [h5] at e2
      simp [m__law_deed, runB, env0, f__law_deed, bookD, e1, moodD, h5, e2]
  · cases rain with
    | true =>
      simp [h5] at e2
      simp [m__law_deed, runB, env0, f__law_deed, bookD, e1, moodD, h5, e2]
    | false =>
      simp [h5] at e2
      simp [m__law_deed, runB, env0, f__law_deed, bookD, e1, moodD, h5, e2]
end AUL
namespace AUL
open PySem PySem.Spec PyProof.Rows L2 AU
/-! ### stands and steps -/
@[simp] theorem ok_rare : PyData.strOk "rare" = true := by decide +kernel
@[simp] theorem ok_days : PyData.strOk "days" = true := by decide +kernel
@[simp] theorem ok_any : PyData.strOk "any" = true := by decide +kernel
@[simp] theorem rare_days : (("rare" : Str) = "days") = False := eq_false (by decide +kernel)
@[simp] theorem days_rare : (("days" : Str) = "rare") = False := eq_false (by decide +kernel)
@[simp] theorem any_rare : (("any" : Str) = "rare") = False := eq_false (by decide +kernel)
@[simp] theorem any_days : (("any" : Str) = "days") = False := eq_false (by decide +kernel)
structure Sd where
  p : Bool
  m : Nat
  h : Int
  l : Bool
  deriving DecidableEq
def pI (p : Bool) : Int := if p = true then 1 else 0
def Sd.d (s : Sd) : DD := .tup [.int (pI s.p), .int (s.m : Nat), .int s.h, .bl s.l]
/-- the climates, as they are told apart -/
inductive Cl where
  | any | days | rare
  deriving DecidableEq
def Cl.s : Cl → Str
  | .any => "any"
  | .days => "days"
  | .rare => "rare"
@[simp] theorem Cl.ok (c : Cl) : PyData.strOk c.s = true := by cases c <;> decide +kernel
def rainsOf : Cl → Sd → List Bool
  | .days, s => if s.p = true then [s.l] else [false, true]
  | .rare, s => if s.l = true then [false] else [false, true]
  | .any, _ => [false, true]
def remOf : Cl → Bool → Bool → Bool
  | .days, p, r => r && !p
  | .rare, _, r => r
  | .any, _, _ => false
def stepTo (b : Bk) (c : Cl) (n : Int) (s : Sd) (r : Bool) : Sd := ⟨!s.p, (stepW b n s.m s.h r).2.1, (stepW b n s.m s.h r).2.2, remOf c s.p r⟩
def tookAt (b : Bk) (n : Int) (s : Sd) (r : Bool) : Bool := (stepW b n s.m s.h r).1
/-- a stand that can be -/
structure SOk (b : Bk) (n : Int) (s : Sd) : Prop where
  m : s.m < b.length
  h0 : 0 ≤ s.h
  h1 : s.h ≤ n
theorem SOk.step {b : Bk} (w : WF b) {n : Int} {s : Sd} (o : SOk b n s) (c : Cl) (r : Bool) : SOk b n (stepTo b c n s r) := by
  obtain ⟨h1, h2, h3, _⟩ := stepW_ok w r o.m o.h0 o.h1
  exact ⟨h1, h2, h3⟩
theorem e_rains (c : Cl) (s : Sd) (S : Sr) : m_rains [.d (.str c.s), .d s.d] S = some (.ok (.lst ((rainsOf c s).map DD.bl)), S) := by
  obtain ⟨p, m, h, l⟩ := s
  cases c <;> cases p <;> cases l <;> simp [m_rains, runB, env0, f_rains, Sd.d, Cl.s, rainsOf, pI]
theorem e_remembered (c : Cl) (p r : Bool) (S : Sr) : m_remembered [.d (.str c.s), .d (.int (pI p)), .d (.bl r)] S = some (.ok (.bl (remOf c p r)), S) := by
  cases c <;> cases p <;> cases r <;> simp [m_remembered, runB, env0, f_remembered, Cl.s, remOf, pI]
theorem not_pI (p : Bool) : 1 - pI p = pI (!p) := by cases p <;> rfl
theorem e_step_of {b : Bk} (w : WF b) (c : Cl) {n : Int} {s : Sd} (o : SOk b n s) (r : Bool) (S : Sr) :
    m_step_of [.d (bookD b), .d (.str c.s), .d (.int n), .d s.d, .d (.bl r)] S = some (.ok (.tup [.bl (tookAt b n s r), (stepTo b c n s r).d]), S) := by
  have e1 := e_walk_of w (n := n) (pI s.p) r (0, 0) o.m o.h0
  have e2 := e_remembered c s.p r (0, 0)
  have e3 : AU.cutD [DD.int (pI s.p), .int (s.m : Nat), .int s.h, .bl s.l] none (some 3) = [.int (pI s.p), .int (s.m : Nat), .int s.h] := rfl
  have e4 : atI [DD.int (pI s.p), .int (s.m : Nat), .int s.h, .bl s.l] 0 = some (.int (pI s.p)) := AU.atI_nat (i := 0) rfl
  simp [m_step_of, runB, env0, f_step_of, e1, e2, e3, Sd.d, e4, stepTo, tookAt, not_pI]
def stepsL (b : Bk) (c : Cl) (n : Int) (s : Sd) : List (Bool × Bool × Sd) := (rainsOf c s).map fun r => (r, r && !tookAt b n s r, stepTo b c n s r)
def stepD (x : Bool × Bool × Sd) : DD := .tup [.bl x.1, .bl x.2.1, x.2.2.d]
theorem rains_cases (c : Cl) (s : Sd) : (∃ r, rainsOf c s = [r]) ∨ rainsOf c s = [false, true] := by
  obtain ⟨p, m, h, l⟩ := s
  cases c <;> cases p <;> cases l <;> simp [rainsOf]
theorem e_steps_b1 {b : Bk} (w : WF b) (c : Cl) {n : Int} {s : Sd} (o : SOk b n s) (r : Bool) (acc : List DD) (x6 x7 : Option AU.It) (S : Sr) (hl : acc.length ≤ 5) :
    f_steps_of_b1 [some (.d (bookD b)), some (.d (.str c.s)), some (.d (.int n)), some (.d s.d), some (.l acc), some (.d (.bl r)), x6, x7] S =
      some (.nx [some (.d (bookD b)), some (.d (.str c.s)), some (.d (.int n)), some (.d s.d), some (.l (acc ++ [stepD (r, r && !tookAt b n s r, stepTo b c n s r)])), some (.d (.bl r)), some (.d (.bl (tookAt b n s r))), some (.d (stepTo b c n s r).d)] S) := by
  have e := e_step_of w c o r (0, 0)
  have hz : szOk (acc.length + 1) = true := decide_eq_true (by omega)
  cases r <;> simp [f_steps_of_b1, e, hz, stepD]
theorem e_steps_of {b : Bk} (w : WF b) (c : Cl) {n : Int} {s : Sd} (o : SOk b n s) (S : Sr) :
    m_steps_of [.d (bookD b), .d (.str c.s), .d (.int n), .d s.d] S = some (.ok (.lst ((stepsL b c n s).map stepD)), S) := by
  have e := e_rains c s (0, 0)
  have b1 := fun r acc x6 x7 S hl => e_steps_b1 w c o r acc x6 x7 S hl
  rcases rains_cases c s with ⟨r, h⟩ | h
  · rw [h] at e
    simp [m_steps_of, runB, env0, f_steps_of, e, forD, b1, stepsL, h]
  · rw [h] at e
    simp [m_steps_of, runB, env0, f_steps_of, e, forD, b1, stepsL, h]
/-! ### the law's steps -/
def oksR : Cl → Sd → Bool → Bool := fun c s r => !(match c with
  | .rare => s.l && r
  | .days => s.p && (r != s.l)
  | .any => false)
theorem rains_ok (c : Cl) (s : Sd) : rainsOf c s = [false, true].filter (oksR c s) := by
  obtain ⟨p, m, h, l⟩ := s
  cases c <;> cases p <;> cases l <;> rfl
@[simp] theorem opNe_bl (x y : Bool) : opNe (.bl x) (.bl y) = AU.ret (.bl (x != y)) := by cases x <;> cases y <;> rfl
@[simp] theorem opEq_bl (x y : Bool) : opEq (.bl x) (.bl y) = AU.ret (.bl (x == y)) := by cases x <;> cases y <;> rfl
theorem e_next_b1 {b : Bk} (w : WF b) (c : Cl) {n : Int} {s : Sd} (o : SOk b n s) (r : Bool) (acc : List DD) (x10 x11 x12 x13 : Option AU.It) (S : Sr) (hl : acc.length ≤ 5) :
    (oksR c s r = false ∧ f__law_next_b1 [some (.d (bookD b)), some (.d (.str c.s)), some (.d (.int n)), some (.d s.d), some (.l acc), some (.d (.bl r)), some (.d (.int (pI s.p))), some (.d (.int (s.m : Nat))), some (.d (.int s.h)), some (.d (.bl s.l)), x10, x11, x12, x13] S =
      some (.ct [some (.d (bookD b)), some (.d (.str c.s)), some (.d (.int n)), some (.d s.d), some (.l acc), some (.d (.bl r)), some (.d (.int (pI s.p))), some (.d (.int (s.m : Nat))), some (.d (.int s.h)), some (.d (.bl s.l)), x10, x11, x12, x13] S)) ∨
    (oksR c s r = true ∧ ∃ x10' x11' x12' x13', f__law_next_b1 [some (.d (bookD b)), some (.d (.str c.s)), some (.d (.int n)), some (.d s.d), some (.l acc), some (.d (.bl r)), some (.d (.int (pI s.p))), some (.d (.int (s.m : Nat))), some (.d (.int s.h)), some (.d (.bl s.l)), x10, x11, x12, x13] S =
      some (.nx [some (.d (bookD b)), some (.d (.str c.s)), some (.d (.int n)), some (.d s.d), some (.l (acc ++ [stepD (r, r && !tookAt b n s r, stepTo b c n s r)])), some (.d (.bl r)), some (.d (.int (pI s.p))), some (.d (.int (s.m : Nat))), some (.d (.int s.h)), some (.d (.bl s.l)), x10', x11', x12', x13'] S)) := by
  have e := e_deed w r (0, 0) o.m o.h0
  have hz : szOk (acc.length + 1) = true := decide_eq_true (by omega)
  have rd : rowD (rowAt b s.m (lookN r s.h)) = .tup [.str (if tookAt b n s r = true then "take" else "leave"), .int ((stepW b n s.m s.h r).2.1 : Nat)] := rfl
  rw [rd] at e
  have st : (stepTo b c n s r).d = .tup [.int (pI (!s.p)), .int ((stepW b n s.m s.h r).2.1 : Nat), .int (n - s.h + (if tookAt b n s r = true then 1 else 0)), .bl (remOf c s.p r)] := rfl
  obtain ⟨p, m, h, l⟩ := s
  cases ht : tookAt b n ⟨p, m, h, l⟩ r with
  | true =>
    rw [ht] at e st
    simp only [if_true] at e st
    cases c <;> cases p <;> cases l <;> cases r <;> first
      | (refine .inl ⟨rfl, ?_⟩; simp [f__law_next_b1, Cl.s, pI]; done)
      | (refine .inr ⟨rfl, ?_⟩; simp [f__law_next_b1, Cl.s, pI, e, hz, stepD, st, ht, remOf]; done)
  | false =>
    rw [ht] at e st
    simp only [Bool.false_eq_true, if_false] at e st
    cases c <;> cases p <;> cases l <;> cases r <;> first
      | (refine .inl ⟨rfl, ?_⟩; simp [f__law_next_b1, Cl.s, pI]; done)
      | (refine .inr ⟨rfl, ?_⟩; simp [f__law_next_b1, Cl.s, pI, e, hz, stepD, st, ht, remOf]; done)
theorem e_next {b : Bk} (w : WF b) (c : Cl) {n : Int} {s : Sd} (o : SOk b n s) (S : Sr) :
    m__law_next [.d (bookD b), .d (.str c.s), .d (.int n), .d s.d] S = some (.ok (.lst ((stepsL b c n s).map stepD)), S) := by
  have b1 := fun r acc x10 x11 x12 x13 S hl => e_next_b1 w c o r acc x10 x11 x12 x13 S hl
  have hr := rains_ok c s
  have ed : s.d = .tup [.int (pI s.p), .int (s.m : Nat), .int s.h, .bl s.l] := rfl
  rcases b1 false [] none none none none S (by decide) with ⟨o1, e1⟩ | ⟨o1, a1, a2, a3, a4, e1⟩
  · rcases b1 true [] none none none none S (by decide) with ⟨o2, e2⟩ | ⟨o2, a5, a6, a7, a8, e2⟩
    · simp [m__law_next, runB, env0, f__law_next, ed, forD] at e1 e2 ⊢
      simp [e1, e2, stepsL, hr, o1, o2]
    · simp [m__law_next, runB, env0, f__law_next, ed, forD] at e1 e2 ⊢
      simp [e1, e2, stepsL, hr, o1, o2]
  · rcases b1 true [stepD (false, false && !tookAt b n s false, stepTo b c n s false)] a1 a2 a3 a4 S (by simp) with ⟨o2, e2⟩ | ⟨o2, a5, a6, a7, a8, e2⟩
    · simp [m__law_next, runB, env0, f__law_next, ed, forD] at e1 e2 ⊢
      simp [e1, e2, stepsL, hr, o1, o2]
    · simp [m__law_next, runB, env0, f__law_next, ed, forD] at e1 e2 ⊢
      simp [e1, e2, stepsL, hr, o1, o2]
end AUL
namespace AUL
open PySem PySem.Spec PyProof.Rows L2 AU

/-! ### the search, plainly -/
abbrev Fd := List (Sd × List Bool)
def look (s : Sd) (fs : Fd) : Option (List Bool) := (fs.find? fun p => decide (p.1 = s)).map (·.2)
def putStep (s : Sd) (acc : Fd × List Sd) (x : Bool × Bool × Sd) : Fd × List Sd :=
  if (look x.2.2 acc.1).isSome = true then acc else (acc.1 ++ [(x.2.2, ((look s acc.1).getD []) ++ [x.1])], acc.2 ++ [x.2.2])
def layer (st : Sd → List (Bool × Bool × Sd)) (acc : Fd × List Sd) (line : List Sd) : Fd × List Sd := line.foldl (fun acc s => (st s).foldl (putStep s) acc) acc
def bfs (st : Sd → List (Bool × Bool × Sd)) : Nat → Fd → List Sd → Fd
  | 0, fs, _ => fs
  | _ + 1, fs, [] => fs
  | k + 1, fs, s :: l => bfs st k (layer st (fs, []) (s :: l)).1 (layer st (fs, []) (s :: l)).2
def ksD (fs : Fd) : List DD := fs.map fun p => p.1.d
def vD (ws : List Bool) : DD := .tup (ws.map DD.bl)
def vsD (fs : Fd) : List DD := fs.map fun p => vD p.2
def Sd.k (s : Sd) : NestedKey := .tup [.num (pI s.p), .num (s.m : Nat), .num s.h, .num (if s.l = true then 1 else 0)]
@[simp] theorem key_d (s : Sd) : keyD s.d = some s.k := by
  unfold Sd.d keyD
  simp [nkDs, nkD, Sd.k, NestedKey.depth, NestedKey.depthAll]
theorem k_inj {s t : Sd} : s.k = t.k ↔ s = t := by
  refine ⟨fun e => ?_, fun e => by rw [e]⟩
  obtain ⟨p, m, h, l⟩ := s
  obtain ⟨p', m', h', l'⟩ := t
  unfold Sd.k at e
  simp only [NestedKey.tup.injEq, List.cons.injEq, NestedKey.num.injEq, and_true] at e
  obtain ⟨e1, e2, e3, e4⟩ := e
  have e2 : m = m' := by omega
  subst e2 e3
  cases p <;> cases p' <;> cases l <;> cases l' <;> simp [pI] at e1 e4 ⊢
theorem find_look (s : Sd) : ∀ fs : Fd, findD s.k (ksD fs) (vsD fs) = (look s fs).map vD
  | [] => rfl
  | p :: fs => by
    show (if keyD p.1.d = some s.k then some (vD p.2) else findD s.k (ksD fs) (vsD fs)) = _
    unfold look
    rw [key_d, List.find?_cons, find_look s fs]
    by_cases h : p.1 = s
    · rw [if_pos (by rw [h]), decide_eq_true h]; rfl
    · rw [if_neg (fun z => h (k_inj.mp (Option.some.inj z))), decide_eq_false h]; rfl
theorem look_mem {s : Sd} {ws : List Bool} : ∀ {fs : Fd}, look s fs = some ws → (s, ws) ∈ fs
  | [], h => by cases h
  | p :: fs, h => by
    unfold look at h
    rw [List.find?_cons] at h
    by_cases e : p.1 = s
    · rw [decide_eq_true e] at h
      have h2 : p.2 = ws := by simpa using h
      rw [← e, ← h2]
      exact List.mem_cons_self
    · rw [decide_eq_false e] at h
      exact List.mem_cons_of_mem _ (look_mem (fs := fs) h)
theorem look_some {s : Sd} {fs : Fd} (h : s ∈ fs.map (·.1)) : ∃ ws, look s fs = some ws := by
  cases q : look s fs with
  | some ws => exact ⟨ws, rfl⟩
  | none =>
    unfold look at q
    cases q2 : fs.find? (fun p => decide (p.1 = s)) with
    | some p => rw [q2] at q; cases q
    | none =>
      obtain ⟨p, hp, e⟩ := List.mem_map.mp h
      have := List.find?_eq_none.mp q2 p hp
      simp [e] at this
theorem look_none {s : Sd} {fs : Fd} (h : look s fs = none) : s ∉ fs.map (·.1) := fun z => by
  obtain ⟨ws, e⟩ := look_some z
  rw [h] at e
  cases e
/-- what holds of what is found -/
structure FOk (b : Bk) (n : Int) (fs : Fd) : Prop where
  nd : (fs.map (·.1)).Nodup
  ok : ∀ p ∈ fs, SOk b n p.1 ∧ p.2.length < fs.length
def cde (s : Sd) : Nat := 8 * s.h.toNat + (4 * (if s.p = true then 1 else 0) + 2 * s.m + (if s.l = true then 1 else 0))
theorem nodup_le : ∀ (l D : List Nat), l.Nodup → (∀ x ∈ l, x ∈ D) → l.length ≤ D.length
  | [], _, _, _ => Nat.zero_le _
  | x :: l, D, h, hm => by
    obtain ⟨h1, h2⟩ := List.nodup_cons.mp h
    have e := nodup_le l (D.erase x) h2 fun y hy => by
      have : y ≠ x := fun z => h1 (z ▸ hy)
      exact (List.mem_erase_of_ne this).mpr (hm y (by simp [hy]))
    rw [List.length_erase_of_mem (hm x (by simp))] at e
    have : 0 < D.length := List.length_pos_of_mem (hm x (by simp))
    simp
    omega
theorem FOk.len {b : Bk} (w : WF b) {n : Int} {fs : Fd} (f : FOk b n fs) : fs.length ≤ 8 * (n.toNat + 1) := by
  have hm : ∀ p ∈ fs, p.1.m < 2 := fun p hp => by
    have := (f.ok p hp).1.m
    rcases w.len with z | z <;> omega
  have e : fs.length = ((fs.map (·.1)).map cde).length := by simp
  rw [e]
  have hN : ((fs.map (·.1)).map cde).length ≤ (List.range (8 * (n.toNat + 1))).length := nodup_le _ _ ?_ fun x hx => ?_
  · rwa [List.length_range] at hN
  · refine List.pairwise_map.mpr (f.nd.imp_of_mem fun {s t} hs ht ne e => ne ?_)
    obtain ⟨p, hp, rfl⟩ := List.mem_map.mp hs
    obtain ⟨q, hq, rfl⟩ := List.mem_map.mp ht
    have o1 := (f.ok p hp).1
    have o2 := (f.ok q hq).1
    have m1 := hm p hp
    have m2 := hm q hq
    obtain ⟨⟨a1, a2, a3, a4⟩, _⟩ := p
    obtain ⟨⟨b1, b2, b3, b4⟩, _⟩ := q
    have h1 := o1.h0
    have h2 := o2.h0
    unfold cde at e
    simp only at e m1 m2 h1 h2 ⊢
    cases a1 <;> cases b1 <;> cases a4 <;> cases b4 <;> simp at e ⊢ <;> omega
  · obtain ⟨s, hs, rfl⟩ := List.mem_map.mp hx
    obtain ⟨p, hp, rfl⟩ := List.mem_map.mp hs
    have o1 := (f.ok p hp).1
    have m1 := hm p hp
    have h1 := o1.h0
    have h2 := o1.h1
    rw [List.mem_range]
    unfold cde
    split <;> split <;> omega
/-- the state of a layer: what is found, what comes later -/
structure AOk (b : Bk) (n : Int) (fs0 : Fd) (acc : Fd × List Sd) : Prop where
  f : FOk b n acc.1
  ext : ∃ more : Fd, acc.1 = fs0 ++ more ∧ acc.2 = more.map (·.1)
theorem AOk.step {b : Bk} {n : Int} {fs0 : Fd} {acc : Fd × List Sd} (a : AOk b n fs0 acc) {s : Sd} (hs : s ∈ acc.1.map (·.1)) {x : Bool × Bool × Sd} (hx : SOk b n x.2.2) : AOk b n fs0 (putStep s acc x) := by
  unfold putStep
  by_cases h : (look x.2.2 acc.1).isSome = true
  · rw [if_pos h]; exact a
  · rw [if_neg h]
    have hn : look x.2.2 acc.1 = none := by simpa using h
    obtain ⟨ws, hw⟩ := look_some hs
    have hl := (a.f.ok _ (look_mem hw)).2
    obtain ⟨more, e1, e2⟩ := a.ext
    refine ⟨⟨?_, fun p hp => ?_⟩, more ++ [(x.2.2, ((look s acc.1).getD []) ++ [x.1])], ?_, ?_⟩
    · rw [List.map_append]
      refine List.nodup_append.mpr ⟨a.f.nd, by simp, fun p hp q hq e => ?_⟩
      simp at hq
      subst hq e
      exact look_none hn hp
    · simp only [List.length_append, List.length_singleton]
      rcases List.mem_append.mp hp with q | q
      · obtain ⟨o1, o2⟩ := a.f.ok p q
        exact ⟨o1, by omega⟩
      · rw [List.mem_singleton.mp q]
        refine ⟨hx, ?_⟩
        rw [hw]
        simp at hl ⊢
        omega
    · show acc.1 ++ _ = _
      rw [e1, List.append_assoc]
    · show acc.2 ++ _ = _
      rw [e2, List.map_append]
      rfl
theorem putStep_mem {s t : Sd} {acc : Fd × List Sd} {x : Bool × Bool × Sd} (h : t ∈ acc.1.map (·.1)) : t ∈ (putStep s acc x).1.map (·.1) := by
  unfold putStep
  split
  · exact h
  · simp only [List.map_append, List.mem_append]
    exact .inl h
theorem AOk.steps {b : Bk} {n : Int} {fs0 : Fd} {s : Sd} : ∀ {xs : List (Bool × Bool × Sd)} {acc : Fd × List Sd}, AOk b n fs0 acc → s ∈ acc.1.map (·.1) → (∀ x ∈ xs, SOk b n x.2.2) → AOk b n fs0 (xs.foldl (putStep s) acc)
  | [], _, a, _, _ => a
  | x :: xs, acc, a, hs, hx => by
    have z := AOk.steps (xs := xs) (acc := putStep s acc x) (a.step hs (hx x (by simp))) (putStep_mem hs) fun y hy => hx y (by simp [hy])
    exact z
theorem steps_mem {s t : Sd} : ∀ {xs : List (Bool × Bool × Sd)} {acc : Fd × List Sd}, t ∈ acc.1.map (·.1) → t ∈ (xs.foldl (putStep s) acc).1.map (·.1)
  | [], _, h => h
  | x :: xs, acc, h => steps_mem (xs := xs) (putStep_mem h)
theorem steps_ok {b : Bk} (w : WF b) (c : Cl) {n : Int} {s : Sd} (o : SOk b n s) : ∀ x ∈ stepsL b c n s, SOk b n x.2.2 := fun x hx => by
  obtain ⟨r, _, rfl⟩ := List.mem_map.mp hx
  exact o.step w c r
theorem AOk.sok {b : Bk} {n : Int} {fs0 : Fd} {acc : Fd × List Sd} (a : AOk b n fs0 acc) {s : Sd} (hs : s ∈ acc.1.map (·.1)) : SOk b n s := by
  obtain ⟨p, hp, rfl⟩ := List.mem_map.mp hs
  exact (a.f.ok p hp).1
theorem AOk.layer {b : Bk} (w : WF b) (c : Cl) {n : Int} {fs0 : Fd} : ∀ {line : List Sd} {acc : Fd × List Sd}, AOk b n fs0 acc → (∀ s ∈ line, s ∈ acc.1.map (·.1)) → AOk b n fs0 (layer (stepsL b c n) acc line)
  | [], _, a, _ => a
  | s :: line, acc, a, h => AOk.layer w c (line := line) (a.steps (h s (by simp)) (steps_ok w c (a.sok (h s (by simp))))) fun t ht => steps_mem (h t (by simp [ht]))
theorem AOk.start {b : Bk} {n : Int} {fs : Fd} (f : FOk b n fs) : AOk b n fs (fs, []) := ⟨f, [], by simp, rfl⟩
/-- how a search goes on -/
theorem layer_next {b : Bk} (w : WF b) (c : Cl) {n : Int} {fs : Fd} (f : FOk b n fs) {line : List Sd} (h : ∀ s ∈ line, s ∈ fs.map (·.1)) :
    FOk b n (layer (stepsL b c n) (fs, []) line).1 ∧ (∀ s ∈ (layer (stepsL b c n) (fs, []) line).2, s ∈ (layer (stepsL b c n) (fs, []) line).1.map (·.1)) ∧ (layer (stepsL b c n) (fs, []) line).1.length = fs.length + (layer (stepsL b c n) (fs, []) line).2.length := by
  have a := AOk.layer w c (AOk.start f) h
  obtain ⟨more, e1, e2⟩ := a.ext
  refine ⟨a.f, fun s hs => ?_, ?_⟩
  · rw [e1, List.map_append, ← e2]
    exact List.mem_append.mpr (.inr hs)
  · rw [e1, e2]
    simp
theorem ok_sd (s : Sd) : okN 1 s.d = true := okN_tup fun x hx => by
  simp only [List.mem_cons, List.not_mem_nil, or_false] at hx
  rcases hx with rfl | rfl | rfl | rfl
  · exact okN_int _
  · exact okN_int _
  · exact okN_int _
  · exact okN_bl _
theorem ok_sds (l : List Sd) : okN 2 (.lst (l.map Sd.d)) = true := okN_lst fun x hx => by
  obtain ⟨s, _, rfl⟩ := List.mem_map.mp hx
  exact ok_sd s
theorem eqv_sds (l : List Sd) : PyData.eqv (DD.lst (l.map Sd.d)).py (DD.lst []).py = l.isEmpty := by
  cases l with
  | nil => rfl
  | cons s l => rfl
theorem ne_nil (l : List Sd) : opNe (.lst (l.map Sd.d)) (.lst []) = AU.ret (.bl (!l.isEmpty)) := by
  rw [opNe_of (eqOk_of (ok_sds l)) (eqOk_of (okN_lst (n := 0) fun x hx => by cases hx)), eqv_sds]
@[simp] theorem stepD_eq (x : Bool × Bool × Sd) : stepD x = .tup [.bl x.1, .bl x.2.1, x.2.2.d] := rfl
theorem put_new {s : Sd} {v : DD} {fs : Fd} (h : look s fs = none) : putD s.k s.d v (ksD fs) (vsD fs) = (ksD fs ++ [s.d], vsD fs ++ [v]) := by
  unfold putD
  rw [find_look, h]
  rfl
theorem putKM_app (i : Nat) (ks vs : List DD) (d j : DD) (env : Env) (S : Sr) : putKM i ks vs (d, j) env S = (match keyD j with
  | some k => if szOk (ks.length + 1) = true then some (.nx (env.set i (some (.m (putD k j d ks vs).1 (putD k j d ks vs).2))) S) else none
  | none => none) := rfl
theorem getDD_sd (s : Sd) (fs : Fd) : getDD (ksD fs) (vsD fs) s.d = ofO ((look s fs).map vD) := by
  unfold getDD
  rw [key_d]
  simp only [find_look]
theorem inDD_sd (c : Bool) (s : Sd) (fs : Fd) : inDD c (ksD fs) (vsD fs) s.d = AU.ret (.bl (c != (look s fs).isSome)) := by
  unfold inDD
  rw [key_d]
  simp only [find_look, Option.isSome_map]
theorem ksD_len (fs : Fd) : (ksD fs).length = fs.length := by unfold ksD; simp

/-! ### the search: the program -/
theorem r_b2 {b : Bk} (c : Cl) (n : Int) (v3 : DD) (fs : Fd) (later : List Sd) (s : Sd) (x : Bool × Bool × Sd) (ln : Option AU.It) (S : Sr) (hz : fs.length ≤ 20000) (hl : later.length ≤ 20000) (hs : ∃ ws, look s fs = some ws ∧ ws.length ≤ 20000) :
    f_reached_b2 [some (.d (bookD b)), some (.d (.str c.s)), some (.d (.int n)), some (.d v3), some (.m (ksD fs) (vsD fs)), some (.d s.d), ln, some (.l (later.map Sd.d)), some (.d (.bl x.1)), some (.d (.bl x.2.1)), some (.d x.2.2.d)] S =
      some (.nx [some (.d (bookD b)), some (.d (.str c.s)), some (.d (.int n)), some (.d v3), some (.m (ksD (putStep s (fs, later) x).1) (vsD (putStep s (fs, later) x).1)), some (.d s.d), ln, some (.l ((putStep s (fs, later) x).2.map Sd.d)), some (.d (.bl x.1)), some (.d (.bl x.2.1)), some (.d x.2.2.d)] S) := by
  obtain ⟨ws, hw, hwl⟩ := hs
  have e1 := inDD_sd true x.2.2 fs
  have e2 := getDD_sd s fs
  rw [hw] at e2
  have z1 : szOk ((ksD fs).length + 1) = true := decide_eq_true (by rw [ksD_len]; omega)
  have z2 : szOk (ws.length + 1) = true := decide_eq_true (by omega)
  have z3 : szOk (later.length + 1) = true := decide_eq_true (by omega)
  unfold putStep
  cases h : look x.2.2 fs with
  | some u =>
    rw [h] at e1
    simp [f_reached_b2, e1]
  | none =>
    rw [h] at e1
    have e3 := put_new (v := vD (ws ++ [x.1])) h
    have e4 : vD ws = .tup (ws.map DD.bl) := rfl
    have e5 : DD.tup (ws.map DD.bl ++ [.bl x.1]) = vD (ws ++ [x.1]) := by unfold vD; simp
    have e6 : ksD (fs ++ [(x.2.2, ws ++ [x.1])]) = ksD fs ++ [x.2.2.d] := by unfold ksD; simp
    have e7 : vsD (fs ++ [(x.2.2, ws ++ [x.1])]) = vsD fs ++ [vD (ws ++ [x.1])] := by unfold vsD; simp
    simp [f_reached_b2, e1, e2, e4, z2, putKM_app, z1, e5, e3, z3, hw, e6, e7]
theorem r_loop {b : Bk} (c : Cl) (n : Int) (v3 : DD) (fs0 : Fd) (s : Sd) (ln : Option AU.It) : ∀ (xs : List (Bool × Bool × Sd)) (acc : Fd × List Sd) (x8 x9 x10 : Option AU.It) (S : Sr), WF b → n ≤ 1000 → AOk b n fs0 acc → s ∈ acc.1.map (·.1) → (∀ x ∈ xs, SOk b n x.2.2) →
    ∃ x8' x9' x10', forD (gT 3 (gsC (gN 8) (gsC (gN 9) (gsC (gN 10) gsN)))) f_reached_b2 (xs.map stepD) [some (.d (bookD b)), some (.d (.str c.s)), some (.d (.int n)), some (.d v3), some (.m (ksD acc.1) (vsD acc.1)), some (.d s.d), ln, some (.l (acc.2.map Sd.d)), x8, x9, x10] S =
      some (.nx [some (.d (bookD b)), some (.d (.str c.s)), some (.d (.int n)), some (.d v3), some (.m (ksD (xs.foldl (putStep s) acc).1) (vsD (xs.foldl (putStep s) acc).1)), some (.d s.d), ln, some (.l ((xs.foldl (putStep s) acc).2.map Sd.d)), x8', x9', x10'] S)
  | [], acc, x8, x9, x10, S, w, hn, a, hs, hx => ⟨x8, x9, x10, rfl⟩
  | x :: xs, acc, x8, x9, x10, S, w, hn, a, hs, hx => by
    have hl := a.f.len w
    obtain ⟨more, m1, m2⟩ := a.ext
    obtain ⟨ws, hw⟩ := look_some hs
    have hwl := (a.f.ok _ (look_mem hw)).2
    simp only at hwl
    have hl2 : acc.2.length ≤ acc.1.length := by rw [m1, m2]; simp
    have e := r_b2 (b := b) c n v3 acc.1 acc.2 s x ln S (by omega) (by omega) ⟨ws, hw, by omega⟩
    obtain ⟨y8, y9, y10, ih⟩ := r_loop c n v3 fs0 s ln xs (putStep s acc x) (some (.d (.bl x.1))) (some (.d (.bl x.2.1))) (some (.d x.2.2.d)) S w hn (a.step hs (hx x (by simp))) (putStep_mem hs) fun y hy => hx y (by simp [hy])
    refine ⟨y8, y9, y10, ?_⟩
    rw [List.map_cons, stepD_eq]
    unfold forD
    simp only [gT_app, gsC_app, gN_app, gsN_app, List.length_cons, List.length_nil, List.set_cons_succ, List.set_cons_zero, Option.bind_some, if_true, Nat.zero_add, Nat.reduceAdd, e]
    exact ih
theorem r_b3 {b : Bk} (w : WF b) (c : Cl) {n : Int} (hn : n ≤ 1000) (v3 : DD) (fs0 : Fd) (s : Sd) (ln : Option AU.It) (acc : Fd × List Sd) (x8 x9 x10 : Option AU.It) (S : Sr) (a : AOk b n fs0 acc) (hs : s ∈ acc.1.map (·.1)) :
    ∃ x8' x9' x10', f_reached_b3 [some (.d (bookD b)), some (.d (.str c.s)), some (.d (.int n)), some (.d v3), some (.m (ksD acc.1) (vsD acc.1)), some (.d s.d), ln, some (.l (acc.2.map Sd.d)), x8, x9, x10] S =
      some (.nx [some (.d (bookD b)), some (.d (.str c.s)), some (.d (.int n)), some (.d v3), some (.m (ksD ((stepsL b c n s).foldl (putStep s) acc).1) (vsD ((stepsL b c n s).foldl (putStep s) acc).1)), some (.d s.d), ln, some (.l (((stepsL b c n s).foldl (putStep s) acc).2.map Sd.d)), x8', x9', x10'] S) := by
  obtain ⟨y8, y9, y10, e⟩ := r_loop (b := b) c n v3 fs0 s ln (stepsL b c n s) acc x8 x9 x10 S w hn a hs (steps_ok w c (a.sok hs))
  refine ⟨y8, y9, y10, ?_⟩
  have e1 := e_steps_of w c (a.sok hs) (0, 0)
  simp [f_reached_b3, e1]
  simpa using e
theorem r_line {b : Bk} (w : WF b) (c : Cl) {n : Int} (hn : n ≤ 1000) (v3 : DD) (fs0 : Fd) (ln : Option AU.It) : ∀ (line : List Sd) (acc : Fd × List Sd) (x5 x8 x9 x10 : Option AU.It) (S : Sr), AOk b n fs0 acc → (∀ s ∈ line, s ∈ acc.1.map (·.1)) →
    ∃ x5' x8' x9' x10', forD (gN 5) f_reached_b3 (line.map Sd.d) [some (.d (bookD b)), some (.d (.str c.s)), some (.d (.int n)), some (.d v3), some (.m (ksD acc.1) (vsD acc.1)), x5, ln, some (.l (acc.2.map Sd.d)), x8, x9, x10] S =
      some (.nx [some (.d (bookD b)), some (.d (.str c.s)), some (.d (.int n)), some (.d v3), some (.m (ksD (layer (stepsL b c n) acc line).1) (vsD (layer (stepsL b c n) acc line).1)), x5', ln, some (.l ((layer (stepsL b c n) acc line).2.map Sd.d)), x8', x9', x10'] S)
  | [], acc, x5, x8, x9, x10, S, a, h => ⟨x5, x8, x9, x10, rfl⟩
  | s :: line, acc, x5, x8, x9, x10, S, a, h => by
    have hs := h s (by simp)
    obtain ⟨y8, y9, y10, e⟩ := r_b3 w c hn v3 fs0 s ln acc x8 x9 x10 S a hs
    obtain ⟨z5, z8, z9, z10, ih⟩ := r_line w c hn v3 fs0 ln line ((stepsL b c n s).foldl (putStep s) acc) (some (.d s.d)) y8 y9 y10 S (a.steps hs (steps_ok w c (a.sok hs))) fun t ht => steps_mem (h t (by simp [ht]))
    refine ⟨z5, z8, z9, z10, ?_⟩
    rw [List.map_cons]
    unfold forD
    simp only [gN_app, List.set_cons_succ, List.set_cons_zero, e]
    exact ih
theorem r_b4 {b : Bk} (w : WF b) (c : Cl) {n : Int} (hn : n ≤ 1000) (v3 : DD) (fs : Fd) (f : FOk b n fs) (line : List Sd) (h : ∀ s ∈ line, s ∈ fs.map (·.1)) (x5 x7 x8 x9 x10 : Option AU.It) (S : Sr) :
    ∃ x5' x7' x8' x9' x10', f_reached_b4 [some (.d (bookD b)), some (.d (.str c.s)), some (.d (.int n)), some (.d v3), some (.m (ksD fs) (vsD fs)), x5, some (.d (.lst (line.map Sd.d))), x7, x8, x9, x10] S =
      some (.nx [some (.d (bookD b)), some (.d (.str c.s)), some (.d (.int n)), some (.d v3), some (.m (ksD (layer (stepsL b c n) (fs, []) line).1) (vsD (layer (stepsL b c n) (fs, []) line).1)), x5', some (.d (.lst ((layer (stepsL b c n) (fs, []) line).2.map Sd.d))), x7', x8', x9', x10'] S) := by
  obtain ⟨y5, y8, y9, y10, e⟩ := r_line w c hn v3 fs (some (.d (.lst (line.map Sd.d)))) line (fs, []) x5 x8 x9 x10 S (AOk.start f) h
  refine ⟨y5, some (.d (.lst ((layer (stepsL b c n) (fs, []) line).2.map Sd.d))), y8, y9, y10, ?_⟩
  have e' := e
  simp only [List.map_nil] at e'
  simp [f_reached_b4, e']
theorem r_while {b : Bk} (w : WF b) (c : Cl) {n : Int} (hn : n ≤ 1000) (v3 : DD) : ∀ (k fuel : Nat) (fs : Fd) (line : List Sd) (x5 x7 x8 x9 x10 : Option AU.It) (S : Sr), FOk b n fs → (∀ s ∈ line, s ∈ fs.map (·.1)) → (line = [] ∨ 8 * (n.toNat + 1) + 1 ≤ k + fs.length) → k ≤ fuel →
    ∃ x5' x6' x7' x8' x9' x10', whileD (tV (eOp opNe (eVar 6) (eLst aNil))) f_reached_b4 (fuel + 1) [some (.d (bookD b)), some (.d (.str c.s)), some (.d (.int n)), some (.d v3), some (.m (ksD fs) (vsD fs)), x5, some (.d (.lst (line.map Sd.d))), x7, x8, x9, x10] S =
      some (.nx [some (.d (bookD b)), some (.d (.str c.s)), some (.d (.int n)), some (.d v3), some (.m (ksD (bfs (stepsL b c n) (k + 1) fs line)) (vsD (bfs (stepsL b c n) (k + 1) fs line))), x5', x6', x7', x8', x9', x10'] S)
  | k, fuel, fs, [], x5, x7, x8, x9, x10, S, f, h, hk, hf => by
    refine ⟨x5, some (.d (.lst [])), x7, x8, x9, x10, ?_⟩
    unfold whileD bfs
    have e := ne_nil []
    simp only [List.map_nil] at e
    simp [e]
  | 0, fuel, fs, s :: l, x5, x7, x8, x9, x10, S, f, h, hk, hf => by
    have := f.len w
    rcases hk with z | z
    · cases z
    · omega
  | k + 1, fuel, fs, s :: l, x5, x7, x8, x9, x10, S, f, h, hk, hf => by
    obtain ⟨fuel, rfl⟩ : ∃ q, fuel = q + 1 := ⟨fuel - 1, by omega⟩
    obtain ⟨y5, y7, y8, y9, y10, e⟩ := r_b4 w c hn v3 fs f (s :: l) h x5 x7 x8 x9 x10 S
    obtain ⟨f2, h2, hl⟩ := layer_next w c f h
    have e1 := ne_nil (s :: l)
    have hk2 : (layer (stepsL b c n) (fs, []) (s :: l)).2 = [] ∨ 8 * (n.toNat + 1) + 1 ≤ k + (layer (stepsL b c n) (fs, []) (s :: l)).1.length := by
      rcases hk with z | z
      · cases z
      · cases q : (layer (stepsL b c n) (fs, []) (s :: l)).2 with
        | nil => exact .inl rfl
        | cons a as =>
          right
          rw [hl, q]
          simp
          omega
    obtain ⟨z5, z6, z7, z8, z9, z10, ih⟩ := r_while w c hn v3 k fuel _ _ y5 y7 y8 y9 y10 S f2 h2 hk2 (by omega)
    refine ⟨z5, z6, z7, z8, z9, z10, ?_⟩
    have e0 : bfs (stepsL b c n) (k + 1 + 1) fs (s :: l) = bfs (stepsL b c n) (k + 1) (layer (stepsL b c n) (fs, []) (s :: l)).1 (layer (stepsL b c n) (fs, []) (s :: l)).2 := rfl
    rw [e0, ← ih]
    conv => lhs; unfold whileD
    simp only [List.map_cons, List.isEmpty_cons, Bool.not_false] at e1
    simp only [List.map_cons] at e
    simp [e1, e]

def Rd (b : Bk) (c : Cl) (n : Int) (firsts : List Sd) : Fd := bfs (stepsL b c n) (8 * (n.toNat + 1) + 2) (firsts.map fun s => (s, [])) firsts
theorem fok_start {b : Bk} {n : Int} {firsts : List Sd} (nd : firsts.Nodup) (ok : ∀ s ∈ firsts, SOk b n s) : FOk b n (firsts.map fun s => (s, [])) := by
  refine ⟨by rw [List.map_map]; rw [show ((fun x : Sd × List Bool => x.1) ∘ fun s => (s, ([] : List Bool))) = id from rfl, List.map_id]; exact nd, fun p hp => ?_⟩
  obtain ⟨s, hs, rfl⟩ := List.mem_map.mp hp
  refine ⟨ok s hs, ?_⟩
  have := List.length_pos_of_mem hp
  simpa using this
theorem first_mem {firsts : List Sd} : ∀ s ∈ firsts, s ∈ (firsts.map fun s => (s, ([] : List Bool))).map (·.1) := fun s hs => by
  rw [List.map_map]
  exact List.mem_map.mpr ⟨s, hs, rfl⟩
theorem r_start {b : Bk} (c : Cl) (n : Int) (v3 : DD) (x6 x7 x8 x9 x10 : Option AU.It) : ∀ (firsts : List Sd) (fs : Fd) (x5 : Option AU.It) (S : Sr), (∀ s ∈ firsts, look s fs = none) → firsts.Nodup → fs.length + firsts.length ≤ 20000 →
    ∃ x5', forD (gN 5) f_reached_b1 (firsts.map Sd.d) [some (.d (bookD b)), some (.d (.str c.s)), some (.d (.int n)), some (.d v3), some (.m (ksD fs) (vsD fs)), x5, x6, x7, x8, x9, x10] S =
      some (.nx [some (.d (bookD b)), some (.d (.str c.s)), some (.d (.int n)), some (.d v3), some (.m (ksD (fs ++ firsts.map fun s => (s, []))) (vsD (fs ++ firsts.map fun s => (s, [])))), x5', x6, x7, x8, x9, x10] S)
  | [], fs, x5, S, h, nd, hz => ⟨x5, by simp [forD]⟩
  | s :: l, fs, x5, S, h, nd, hz => by
    obtain ⟨n1, n2⟩ := List.nodup_cons.mp nd
    have hs := h s (by simp)
    have z1 : szOk ((ksD fs).length + 1) = true := decide_eq_true (by rw [ksD_len]; simp at hz; omega)
    have e3 := put_new (v := vD []) hs
    obtain ⟨y5, ih⟩ := r_start c n v3 x6 x7 x8 x9 x10 l (fs ++ [(s, [])]) (some (.d s.d)) S (fun t ht => by
      unfold look
      rw [List.find?_append]
      have h1 := h t (by simp [ht])
      unfold look at h1
      have h1 : (fs.find? fun p => decide (p.1 = t)) = none := by simpa using h1
      have ne : ¬ s = t := fun z => n1 (z ▸ ht)
      rw [h1]
      simp [ne]) n2 (by simp at hz ⊢; omega)
    refine ⟨y5, ?_⟩
    have e4 : vD [] = .tup [] := rfl
    rw [e4] at e3
    rw [List.map_cons]
    unfold forD
    have e5 : ksD (fs ++ [(s, [])]) = ksD fs ++ [s.d] := by unfold ksD; simp
    have e6 : vsD (fs ++ [(s, [])]) = vsD fs ++ [.tup []] := by unfold vsD; simp; rfl
    rw [e5, e6] at ih
    have st : f_reached_b1 [some (.d (bookD b)), some (.d (.str c.s)), some (.d (.int n)), some (.d v3), some (.m (ksD fs) (vsD fs)), some (.d s.d), x6, x7, x8, x9, x10] S = some (.nx [some (.d (bookD b)), some (.d (.str c.s)), some (.d (.int n)), some (.d v3), some (.m (ksD fs ++ [s.d]) (vsD fs ++ [.tup []])), some (.d s.d), x6, x7, x8, x9, x10] S) := by
      simp [f_reached_b1, putKM_app, z1, e3]
    simp only [gN_app, List.set_cons_succ, List.set_cons_zero, st]
    simpa using ih
theorem e_reached {b : Bk} (w : WF b) (c : Cl) {n : Int} (hn : n ≤ 1000) {firsts : List Sd} (nd : firsts.Nodup) (ok : ∀ s ∈ firsts, SOk b n s) (S : Sr) :
    m_reached [.d (bookD b), .d (.str c.s), .d (.int n), .d (.lst (firsts.map Sd.d))] S = some (.ok (.dct (ksD (Rd b c n firsts)) (vsD (Rd b c n firsts))), S) := by
  have f0 := fok_start nd ok
  have hl := f0.len w
  rw [List.length_map] at hl
  obtain ⟨y5, e1⟩ := r_start (b := b) c n (.lst (firsts.map Sd.d)) none none none none none firsts [] none S (fun s hs => rfl) nd (by simp; omega)
  have e1' : forD (gN 5) f_reached_b1 (firsts.map Sd.d) [some (.d (bookD b)), some (.d (.str c.s)), some (.d (.int n)), some (.d (.lst (firsts.map Sd.d))), some (.m [] []), none, none, none, none, none, none] S = _ := e1
  obtain ⟨z5, z6, z7, z8, z9, z10, e2⟩ := r_while w c hn (.lst (firsts.map Sd.d)) (8 * (n.toNat + 1) + 1) 99999 _ firsts y5 none none none none S f0 first_mem (.inr (by omega)) (by omega)
  have e3 : fuel_ = fun _ _ => 100000 := rfl
  simp only [List.nil_append] at e1'
  simp [m_reached, runB, env0, f_reached, e1', sWhile, e3, e2, Rd]

/-! ### the search: the law -/
theorem l_b2 {b : Bk} (c : Cl) (n : Int) (v3 : DD) (fs : Fd) (later : List Sd) (s : Sd) (x : Bool × Bool × Sd) (ln : Option AU.It) (S : Sr) (hz : fs.length ≤ 20000) (hl : later.length ≤ 20000) (hs : ∃ ws, look s fs = some ws ∧ ws.length ≤ 20000) :
    f__law_reached_b1 [some (.d (bookD b)), some (.d (.str c.s)), some (.d (.int n)), some (.d v3), some (.m (ksD fs) (vsD fs)), ln, some (.l (later.map Sd.d)), some (.d s.d), some (.d (.bl x.1)), some (.d (.bl x.2.1)), some (.d x.2.2.d)] S =
      some (.nx [some (.d (bookD b)), some (.d (.str c.s)), some (.d (.int n)), some (.d v3), some (.m (ksD (putStep s (fs, later) x).1) (vsD (putStep s (fs, later) x).1)), ln, some (.l ((putStep s (fs, later) x).2.map Sd.d)), some (.d s.d), some (.d (.bl x.1)), some (.d (.bl x.2.1)), some (.d x.2.2.d)] S) := by
  obtain ⟨ws, hw, hwl⟩ := hs
  have e1 := inDD_sd true x.2.2 fs
  have e2 := getDD_sd s fs
  rw [hw] at e2
  have z1 : szOk ((ksD fs).length + 1) = true := decide_eq_true (by rw [ksD_len]; omega)
  have z2 : szOk (ws.length + 1) = true := decide_eq_true (by omega)
  have z3 : szOk (later.length + 1) = true := decide_eq_true (by omega)
  unfold putStep
  cases h : look x.2.2 fs with
  | some u =>
    rw [h] at e1
    simp [f__law_reached_b1, e1]
  | none =>
    rw [h] at e1
    have e3 := put_new (v := vD (ws ++ [x.1])) h
    have e4 : vD ws = .tup (ws.map DD.bl) := rfl
    have e5 : DD.tup (ws.map DD.bl ++ [.bl x.1]) = vD (ws ++ [x.1]) := by unfold vD; simp
    have e6 : ksD (fs ++ [(x.2.2, ws ++ [x.1])]) = ksD fs ++ [x.2.2.d] := by unfold ksD; simp
    have e7 : vsD (fs ++ [(x.2.2, ws ++ [x.1])]) = vsD fs ++ [vD (ws ++ [x.1])] := by unfold vsD; simp
    simp [f__law_reached_b1, e1, e2, e4, z2, putKM_app, z1, e5, e3, z3, hw, e6, e7]
theorem l_loop {b : Bk} (c : Cl) (n : Int) (v3 : DD) (fs0 : Fd) (s : Sd) (ln : Option AU.It) : ∀ (xs : List (Bool × Bool × Sd)) (acc : Fd × List Sd) (x8 x9 x10 : Option AU.It) (S : Sr), WF b → n ≤ 1000 → AOk b n fs0 acc → s ∈ acc.1.map (·.1) → (∀ x ∈ xs, SOk b n x.2.2) →
    ∃ x8' x9' x10', forD (gT 3 (gsC (gN 8) (gsC (gN 9) (gsC (gN 10) gsN)))) f__law_reached_b1 (xs.map stepD) [some (.d (bookD b)), some (.d (.str c.s)), some (.d (.int n)), some (.d v3), some (.m (ksD acc.1) (vsD acc.1)), ln, some (.l (acc.2.map Sd.d)), some (.d s.d), x8, x9, x10] S =
      some (.nx [some (.d (bookD b)), some (.d (.str c.s)), some (.d (.int n)), some (.d v3), some (.m (ksD (xs.foldl (putStep s) acc).1) (vsD (xs.foldl (putStep s) acc).1)), ln, some (.l ((xs.foldl (putStep s) acc).2.map Sd.d)), some (.d s.d), x8', x9', x10'] S)
  | [], acc, x8, x9, x10, S, w, hn, a, hs, hx => ⟨x8, x9, x10, rfl⟩
  | x :: xs, acc, x8, x9, x10, S, w, hn, a, hs, hx => by
    have hl := a.f.len w
    obtain ⟨more, m1, m2⟩ := a.ext
    obtain ⟨ws, hw⟩ := look_some hs
    have hwl := (a.f.ok _ (look_mem hw)).2
    simp only at hwl
    have hl2 : acc.2.length ≤ acc.1.length := by rw [m1, m2]; simp
    have e := l_b2 (b := b) c n v3 acc.1 acc.2 s x ln S (by omega) (by omega) ⟨ws, hw, by omega⟩
    obtain ⟨y8, y9, y10, ih⟩ := l_loop c n v3 fs0 s ln xs (putStep s acc x) (some (.d (.bl x.1))) (some (.d (.bl x.2.1))) (some (.d x.2.2.d)) S w hn (a.step hs (hx x (by simp))) (putStep_mem hs) fun y hy => hx y (by simp [hy])
    refine ⟨y8, y9, y10, ?_⟩
    rw [List.map_cons, stepD_eq]
    unfold forD
    simp only [gT_app, gsC_app, gN_app, gsN_app, List.length_cons, List.length_nil, List.set_cons_succ, List.set_cons_zero, Option.bind_some, if_true, Nat.zero_add, Nat.reduceAdd, e]
    exact ih
theorem l_b3 {b : Bk} (w : WF b) (c : Cl) {n : Int} (hn : n ≤ 1000) (v3 : DD) (fs0 : Fd) (s : Sd) (ln : Option AU.It) (acc : Fd × List Sd) (x8 x9 x10 : Option AU.It) (S : Sr) (a : AOk b n fs0 acc) (hs : s ∈ acc.1.map (·.1)) :
    ∃ x8' x9' x10', f__law_reached_b2 [some (.d (bookD b)), some (.d (.str c.s)), some (.d (.int n)), some (.d v3), some (.m (ksD acc.1) (vsD acc.1)), ln, some (.l (acc.2.map Sd.d)), some (.d s.d), x8, x9, x10] S =
      some (.nx [some (.d (bookD b)), some (.d (.str c.s)), some (.d (.int n)), some (.d v3), some (.m (ksD ((stepsL b c n s).foldl (putStep s) acc).1) (vsD ((stepsL b c n s).foldl (putStep s) acc).1)), ln, some (.l (((stepsL b c n s).foldl (putStep s) acc).2.map Sd.d)), some (.d s.d), x8', x9', x10'] S) := by
  obtain ⟨y8, y9, y10, e⟩ := l_loop (b := b) c n v3 fs0 s ln (stepsL b c n s) acc x8 x9 x10 S w hn a hs (steps_ok w c (a.sok hs))
  refine ⟨y8, y9, y10, ?_⟩
  have e1 := e_next w c (a.sok hs) (0, 0)
  simp [f__law_reached_b2, e1]
  simpa using e
theorem l_line {b : Bk} (w : WF b) (c : Cl) {n : Int} (hn : n ≤ 1000) (v3 : DD) (fs0 : Fd) (ln : Option AU.It) : ∀ (line : List Sd) (acc : Fd × List Sd) (x5 x8 x9 x10 : Option AU.It) (S : Sr), AOk b n fs0 acc → (∀ s ∈ line, s ∈ acc.1.map (·.1)) →
    ∃ x5' x8' x9' x10', forD (gN 7) f__law_reached_b2 (line.map Sd.d) [some (.d (bookD b)), some (.d (.str c.s)), some (.d (.int n)), some (.d v3), some (.m (ksD acc.1) (vsD acc.1)), ln, some (.l (acc.2.map Sd.d)), x5, x8, x9, x10] S =
      some (.nx [some (.d (bookD b)), some (.d (.str c.s)), some (.d (.int n)), some (.d v3), some (.m (ksD (layer (stepsL b c n) acc line).1) (vsD (layer (stepsL b c n) acc line).1)), ln, some (.l ((layer (stepsL b c n) acc line).2.map Sd.d)), x5', x8', x9', x10'] S)
  | [], acc, x5, x8, x9, x10, S, a, h => ⟨x5, x8, x9, x10, rfl⟩
  | s :: line, acc, x5, x8, x9, x10, S, a, h => by
    have hs := h s (by simp)
    obtain ⟨y8, y9, y10, e⟩ := l_b3 w c hn v3 fs0 s ln acc x8 x9 x10 S a hs
    obtain ⟨z5, z8, z9, z10, ih⟩ := l_line w c hn v3 fs0 ln line ((stepsL b c n s).foldl (putStep s) acc) (some (.d s.d)) y8 y9 y10 S (a.steps hs (steps_ok w c (a.sok hs))) fun t ht => steps_mem (h t (by simp [ht]))
    refine ⟨z5, z8, z9, z10, ?_⟩
    rw [List.map_cons]
    unfold forD
    simp only [gN_app, List.set_cons_succ, List.set_cons_zero, e]
    exact ih
theorem l_b4 {b : Bk} (w : WF b) (c : Cl) {n : Int} (hn : n ≤ 1000) (v3 : DD) (fs : Fd) (f : FOk b n fs) (line : List Sd) (h : ∀ s ∈ line, s ∈ fs.map (·.1)) (x5 x7 x8 x9 x10 : Option AU.It) (S : Sr) :
    ∃ x5' x7' x8' x9' x10', f__law_reached_b3 [some (.d (bookD b)), some (.d (.str c.s)), some (.d (.int n)), some (.d v3), some (.m (ksD fs) (vsD fs)), some (.d (.lst (line.map Sd.d))), x7, x5, x8, x9, x10] S =
      some (.nx [some (.d (bookD b)), some (.d (.str c.s)), some (.d (.int n)), some (.d v3), some (.m (ksD (layer (stepsL b c n) (fs, []) line).1) (vsD (layer (stepsL b c n) (fs, []) line).1)), some (.d (.lst ((layer (stepsL b c n) (fs, []) line).2.map Sd.d))), x7', x5', x8', x9', x10'] S) := by
  obtain ⟨y5, y8, y9, y10, e⟩ := l_line w c hn v3 fs (some (.d (.lst (line.map Sd.d)))) line (fs, []) x5 x8 x9 x10 S (AOk.start f) h
  refine ⟨y5, some (.d (.lst ((layer (stepsL b c n) (fs, []) line).2.map Sd.d))), y8, y9, y10, ?_⟩
  have e' := e
  simp only [List.map_nil] at e'
  simp [f__law_reached_b3, e']
theorem l_while {b : Bk} (w : WF b) (c : Cl) {n : Int} (hn : n ≤ 1000) (v3 : DD) : ∀ (k fuel : Nat) (fs : Fd) (line : List Sd) (x5 x7 x8 x9 x10 : Option AU.It) (S : Sr), FOk b n fs → (∀ s ∈ line, s ∈ fs.map (·.1)) → (line = [] ∨ 8 * (n.toNat + 1) + 1 ≤ k + fs.length) → k ≤ fuel →
    ∃ x5' x6' x7' x8' x9' x10', whileD (tV (eOp opNe (eVar 5) (eLst aNil))) f__law_reached_b3 (fuel + 1) [some (.d (bookD b)), some (.d (.str c.s)), some (.d (.int n)), some (.d v3), some (.m (ksD fs) (vsD fs)), some (.d (.lst (line.map Sd.d))), x7, x5, x8, x9, x10] S =
      some (.nx [some (.d (bookD b)), some (.d (.str c.s)), some (.d (.int n)), some (.d v3), some (.m (ksD (bfs (stepsL b c n) (k + 1) fs line)) (vsD (bfs (stepsL b c n) (k + 1) fs line))), x6', x7', x5', x8', x9', x10'] S)
  | k, fuel, fs, [], x5, x7, x8, x9, x10, S, f, h, hk, hf => by
    refine ⟨x5, some (.d (.lst [])), x7, x8, x9, x10, ?_⟩
    unfold whileD bfs
    have e := ne_nil []
    simp only [List.map_nil] at e
    simp [e]
  | 0, fuel, fs, s :: l, x5, x7, x8, x9, x10, S, f, h, hk, hf => by
    have := f.len w
    rcases hk with z | z
    · cases z
    · omega
  | k + 1, fuel, fs, s :: l, x5, x7, x8, x9, x10, S, f, h, hk, hf => by
    obtain ⟨fuel, rfl⟩ : ∃ q, fuel = q + 1 := ⟨fuel - 1, by omega⟩
    obtain ⟨y5, y7, y8, y9, y10, e⟩ := l_b4 w c hn v3 fs f (s :: l) h x5 x7 x8 x9 x10 S
    obtain ⟨f2, h2, hl⟩ := layer_next w c f h
    have e1 := ne_nil (s :: l)
    have hk2 : (layer (stepsL b c n) (fs, []) (s :: l)).2 = [] ∨ 8 * (n.toNat + 1) + 1 ≤ k + (layer (stepsL b c n) (fs, []) (s :: l)).1.length := by
      rcases hk with z | z
      · cases z
      · cases q : (layer (stepsL b c n) (fs, []) (s :: l)).2 with
        | nil => exact .inl rfl
        | cons a as =>
          right
          rw [hl, q]
          simp
          omega
    obtain ⟨z5, z6, z7, z8, z9, z10, ih⟩ := l_while w c hn v3 k fuel _ _ y5 y7 y8 y9 y10 S f2 h2 hk2 (by omega)
    refine ⟨z5, z6, z7, z8, z9, z10, ?_⟩
    have e0 : bfs (stepsL b c n) (k + 1 + 1) fs (s :: l) = bfs (stepsL b c n) (k + 1) (layer (stepsL b c n) (fs, []) (s :: l)).1 (layer (stepsL b c n) (fs, []) (s :: l)).2 := rfl
    rw [e0, ← ih]
    conv => lhs; unfold whileD
    simp only [List.map_cons, List.isEmpty_cons, Bool.not_false] at e1
    simp only [List.map_cons] at e
    simp [e1, e]

theorem l_pairs : ∀ l : List Sd, pairsD (l.map fun s => .tup [s.d, .tup []]) = some (l.map fun s => (s.d, DD.tup []))
  | [] => rfl
  | s :: l => by
    rw [List.map_cons, List.map_cons]
    unfold pairsD
    rw [key_d, l_pairs l]
theorem l_putAll : ∀ (l : List Sd) (fs : Fd), (∀ s ∈ l, look s fs = none) → l.Nodup → putAllD (ksD fs, vsD fs) (l.map fun s => (s.d, DD.tup [])) = (ksD (fs ++ l.map fun s => (s, [])), vsD (fs ++ l.map fun s => (s, [])))
  | [], fs, _, _ => by simp [putAllD]
  | s :: l, fs, h, nd => by
    obtain ⟨n1, n2⟩ := List.nodup_cons.mp nd
    have e3 := put_new (v := vD []) (h s (by simp))
    have e4 : vD [] = .tup [] := rfl
    rw [e4] at e3
    rw [List.map_cons]
    unfold putAllD
    rw [key_d]
    simp only [e3]
    have e5 : ksD (fs ++ [(s, [])]) = ksD fs ++ [s.d] := by unfold ksD; simp
    have e6 : vsD (fs ++ [(s, [])]) = vsD fs ++ [.tup []] := by unfold vsD; simp; rfl
    rw [← e5, ← e6, l_putAll l (fs ++ [(s, [])]) (fun t ht => by
      unfold look
      rw [List.find?_append]
      have h1 := h t (by simp [ht])
      unfold look at h1
      have h1 : (fs.find? fun p => decide (p.1 = t)) = none := by simpa using h1
      have ne : ¬ s = t := fun z => n1 (z ▸ ht)
      rw [h1]
      simp [ne]) n2]
    simp
theorem e_law_reached {b : Bk} (w : WF b) (c : Cl) {n : Int} (hn : n ≤ 1000) {firsts : List Sd} (nd : firsts.Nodup) (ok : ∀ s ∈ firsts, SOk b n s) (S : Sr) :
    m__law_reached [.d (bookD b), .d (.str c.s), .d (.int n), .d (.lst (firsts.map Sd.d))] S = some (.ok (.dct (ksD (Rd b c n firsts)) (vsD (Rd b c n firsts))), S) := by
  have f0 := fok_start nd ok
  have hl := f0.len w
  rw [List.length_map] at hl
  obtain ⟨z5, z6, z7, z8, z9, z10, e2⟩ := l_while w c hn (.lst (firsts.map Sd.d)) (8 * (n.toNat + 1) + 1) 99999 _ firsts none none none none none S f0 first_mem (.inr (by omega)) (by omega)
  have e3 : fuel_ = fun _ _ => 100000 := rfl
  have hz : szOk firsts.length = true := decide_eq_true (by omega)
  have e4 := l_pairs firsts
  have e5 := l_putAll firsts [] (fun s hs => rfl) nd
  have e5' : putAllD ([], []) (firsts.map fun s => (s.d, DD.tup [])) = _ := e5
  simp only [List.nil_append] at e5'
  have e6 : ∀ (env : Env) (S : Sr), lcD (gN 7) tYesD (eTup (aCons (eVar 7) (aCons (eTup aNil) aNil))) [some (.d (bookD b)), some (.d (.str c.s)), some (.d (.int n)), some (.d (.lst (firsts.map Sd.d))), none, none, none, none, none, none, none] (firsts.map Sd.d) S = some (.ok (firsts.map fun s => .tup [s.d, .tup []]), S) := fun _ S => by
    rw [lcD_mapF (h := Sd.d) (fun s => DD.tup [s.d, .tup []]) fun p hp => ⟨_, rfl, ?_⟩]
    rfl
  simp [m__law_reached, runB, env0, f__law_reached, hz, e6 [], e4, e5', sWhile, e3, e2, Rd]
end AUL
namespace AUL
open PySem PySem.Spec PyProof.Rows L2 AU
/-! ### needs -/
@[simp] theorem opIs_non : opIs .non .non = AU.ret (.bl true) := rfl
@[simp] theorem opIs_tup (xs : List DD) : opIs (.tup xs) .non = AU.ret (.bl false) := rfl
def climOk : DD → Option Cl
  | .str s => if s = Cl.any.s then some .any else if s = Cl.days.s then some .days else if s = Cl.rare.s then some .rare else none
  | _ => none
theorem clim_of (c : Cl) : climOk (.str c.s) = some c := by
  cases c
  · simp [climOk, Cl.s]
  · have h : ¬ ("days" : Str) = "any" := by decide +kernel
    simp [climOk, Cl.s, h]
  · have h : ¬ ("rare" : Str) = "any" := by decide +kernel
    simp [climOk, Cl.s, h]
@[simp] theorem ok_clims : okN 1 (.tup [.str "any", .str "days", .str "rare"]) = true := okN_tup fun x hx => by
  simp only [List.mem_cons, List.not_mem_nil, or_false] at hx
  rcases hx with rfl | rfl | rfl <;> exact okN_str (by simp)
theorem e_need_climate (v : DD) (S : Sr) (h : okN 3 v = true) : m_need_climate [.d v] S = if (climOk v).isSome = true then some (.ok .non, S) else some (.error ⟨kx_InvalidClimate, none⟩, S) := by
  cases v with
  | str s =>
    have hs : PyData.strOk s = true := ok_str h
    have e1 : opNotIn (.str s) (.tup [.str "any", .str "days", .str "rare"]) = AU.ret (.bl (!(climOk (.str s)).isSome)) := by
      have e2 : eqOk (.str s) = true := eqOk_of (n := 0) (okN_str hs)
      have e3 : eqOk (.tup [.str "any", .str "days", .str "rare"]) = true := eqOk_of ok_clims
      show (if (eqOk (.str s) && eqOk (.tup [.str "any", .str "days", .str "rare"])) = true then AU.ret (DD.bl (true != memD (.str s) [.str "any", .str "days", .str "rare"])) else stk) = _
      rw [e2, e3]
      have e4 : memD (.str s) [.str "any", .str "days", .str "rare"] = (climOk (.str s)).isSome := by
        unfold memD
        simp only [DD.pyA, DD.py, List.any_cons, List.any_nil, Bool.or_false, eqv_str]
        unfold climOk
        by_cases h1 : s = Cl.any.s
        · rw [h1]; simp [Cl.s]
        · by_cases h2 : s = Cl.days.s
          · rw [h2]; simp [Cl.s]
            split <;> rfl
          · by_cases h3 : s = Cl.rare.s
            · rw [h3]; simp [Cl.s]
              split <;> (try rfl)
            · have a1 : ¬ ("any" : Str) = s := fun z => h1 z.symm
              have a2 : ¬ ("days" : Str) = s := fun z => h2 z.symm
              have a3 : ¬ ("rare" : Str) = s := fun z => h3 z.symm
              simp [h1, h2, h3, a1, a2, a3]
      rw [e4]
      simp
    cases hc : (climOk (.str s)).isSome with
    | true =>
      rw [hc] at e1
      simp [m_need_climate, runB, env0, f_need_climate, e1]
    | false =>
      rw [hc] at e1
      simp [m_need_climate, runB, env0, f_need_climate, e1]
  | raw v => simp [okN, DD.pure] at h
  | dct k v => simp [okN, DD.pure] at h
  | set k => simp [okN, DD.pure] at h
  | _ => simp [m_need_climate, runB, env0, f_need_climate, climOk]
/-! ### the first stand -/
def fst (n away : Int) : Sd := ⟨false, 0, n - away, false⟩
theorem fst_ok {b : Bk} (w : WF b) {n away : Int} (h0 : 0 ≤ away) (hn : away ≤ n) : SOk b n (fst n away) := ⟨by rcases w.len with z | z <;> (show 0 < _; omega), by show 0 ≤ n - away; omega, by show n - away ≤ n; omega⟩
theorem e_first_stand (n away : Int) (S : Sr) : m_first_stand [.d (.int n), .d (.int away)] S = some (.ok (fst n away).d, S) := by
  simp [m_first_stand, runB, env0, f_first_stand, fst, Sd.d, pI]
theorem fst_d (n away : Int) : (fst n away).d = .tup [.int 0, .int 0, .int (n - away), .bl false] := rfl
/-! ### what the search finds, once more -/
theorem bfs_ok {b : Bk} (w : WF b) (c : Cl) {n : Int} : ∀ (k : Nat) (fs : Fd) (line : List Sd), FOk b n fs → (∀ s ∈ line, s ∈ fs.map (·.1)) → FOk b n (bfs (stepsL b c n) k fs line) ∧ ∃ more, bfs (stepsL b c n) k fs line = fs ++ more
  | 0, fs, line, f, h => ⟨f, [], by simp [bfs]⟩
  | k + 1, fs, [], f, h => ⟨f, [], by simp [bfs]⟩
  | k + 1, fs, s :: l, f, h => by
    obtain ⟨f2, h2, hl⟩ := layer_next w c f h
    obtain ⟨f3, m3, e3⟩ := bfs_ok w c k _ _ f2 h2
    have a := AOk.layer w c (AOk.start f) h
    obtain ⟨more, e1, e2⟩ := a.ext
    refine ⟨f3, more ++ m3, ?_⟩
    show bfs (stepsL b c n) k (layer (stepsL b c n) (fs, []) (s :: l)).1 (layer (stepsL b c n) (fs, []) (s :: l)).2 = _
    rw [e3, e1, List.append_assoc]
theorem Rd_ok {b : Bk} (w : WF b) (c : Cl) {n : Int} {firsts : List Sd} (nd : firsts.Nodup) (ok : ∀ s ∈ firsts, SOk b n s) : FOk b n (Rd b c n firsts) ∧ ∃ more, Rd b c n firsts = (firsts.map fun s => (s, [])) ++ more :=
  bfs_ok w c _ _ _ (fok_start nd ok) first_mem
end AUL
namespace AUL
open PySem PySem.Spec PyProof.Rows L2 AU
/-- which error, if any -/
def needF (v1 v2 v3 v4 : DD) : Option Nat := if bookOk v1 = true then (if (climOk v2).isSome = true then (match v3 with
  | .int n => if isFrom (.int n) 0 30 = true then (if isFrom v4 0 n = true then none else some kx_InvalidNumber) else some kx_InvalidNumber
  | v => some kx_InvalidNumber) else some kx_InvalidClimate) else some kx_InvalidBook
theorem e_need_few (v1 v2 v3 v4 : DD) (S : Sr) (h1 : okN 3 v1 = true) (h2 : okN 3 v2 = true) (h3 : plain1 v3 = true) (h4 : plain1 v4 = true) : m_need_few [.d v1, .d v2, .d v3, .d v4] S = (match needF v1 v2 v3 v4 with
    | none => some (.ok .non, S)
    | some k => some (.error ⟨k, none⟩, S)) := by
  have a1 := e_need_book v1 (0, 0) h1
  have a2 := e_need_climate v2 (0, 0) h2
  have a3 := e_need_number v3 0 30 (0, 0) h3
  unfold needF
  by_cases c1 : bookOk v1 = true
  · rw [if_pos c1] at a1 ⊢
    by_cases c2 : (climOk v2).isSome = true
    · rw [if_pos c2] at a2 ⊢
      have a5 : m_need_both [.d v1, .d v2] (0, 0) = some (.ok .non, (0, 0)) := by simp [m_need_both, runB, env0, f_need_both, a1, a2]
      cases v3 with
      | int n =>
        have a4 := e_need_number v4 0 n (0, 0) h4
        by_cases c3 : isFrom (.int n) 0 30 = true
        · rw [if_pos c3] at a3
          by_cases c4 : isFrom v4 0 n = true
          · rw [if_pos c4] at a4
            simp [m_need_few, runB, env0, f_need_few, a5, a3, a4, c3, c4]
          · rw [if_neg c4] at a4
            simp [m_need_few, runB, env0, f_need_few, a5, a3, a4, c3, c4]
        · rw [if_neg c3] at a3
          simp [m_need_few, runB, env0, f_need_few, a5, a3, c3]
      | _ =>
        rw [if_neg (by simp [isFrom])] at a3
        simp [m_need_few, runB, env0, f_need_few, a5, a3]
    · rw [if_neg c2] at a2 ⊢
      have a5 : m_need_both [.d v1, .d v2] (0, 0) = some (.error ⟨kx_InvalidClimate, none⟩, (0, 0)) := by simp [m_need_both, runB, env0, f_need_both, a1, a2]
      simp [m_need_few, runB, env0, f_need_few, a5]
  · rw [if_neg c1] at a1 ⊢
    have a5 : m_need_both [.d v1, .d v2] (0, 0) = some (.error ⟨kx_InvalidBook, none⟩, (0, 0)) := by simp [m_need_both, runB, env0, f_need_both, a1]
    simp [m_need_few, runB, env0, f_need_few, a5]
theorem few_none {b : Bk} (w : WF b) (c : Cl) {n away : Int} (h0 : 0 ≤ away) (hn : away ≤ n) (hg : n ≤ 30) : needF (bookD b) (.str c.s) (.int n) (.int away) = none := by
  unfold needF
  rw [if_pos w.ok, if_pos (by rw [clim_of]; rfl)]
  have a1 : isFrom (.int n) 0 30 = true := by simp [isFrom]; omega
  have a2 : isFrom (.int away) 0 n = true := by simp [isFrom]; omega
  simp [a1, a2]
theorem e_nf {b : Bk} (w : WF b) (c : Cl) {n away : Int} (h0 : 0 ≤ away) (hn : away ≤ n) (hg : n ≤ 30) (S : Sr) : m_need_few [.d (bookD b), .d (.str c.s), .d (.int n), .d (.int away)] S = some (.ok .non, S) := by
  have e := e_need_few (bookD b) (.str c.s) (.int n) (.int away) S (ok_bookD b) (okN_str (by simp)) rfl rfl
  rw [few_none w c h0 hn hg] at e
  exact e
abbrev R1 (b : Bk) (c : Cl) (n away : Int) : Fd := Rd b c n [fst n away]
theorem e_reached1 {b : Bk} (w : WF b) (c : Cl) {n away : Int} (h0 : 0 ≤ away) (hn : away ≤ n) (hg : n ≤ 1000) (S : Sr) : m_reached [.d (bookD b), .d (.str c.s), .d (.int n), .d (.lst [(fst n away).d])] S = some (.ok (.dct (ksD (R1 b c n away)) (vsD (R1 b c n away))), S) :=
  e_reached w c hg (firsts := [fst n away]) (by simp) (fun s hs => by rw [List.mem_singleton.mp hs]; exact fst_ok w h0 hn) S
theorem e_law_reached1 {b : Bk} (w : WF b) (c : Cl) {n away : Int} (h0 : 0 ≤ away) (hn : away ≤ n) (hg : n ≤ 1000) (S : Sr) : m__law_reached [.d (bookD b), .d (.str c.s), .d (.int n), .d (.lst [(fst n away).d])] S = some (.ok (.dct (ksD (R1 b c n away)) (vsD (R1 b c n away))), S) :=
  e_law_reached w c hg (firsts := [fst n away]) (by simp) (fun s hs => by rw [List.mem_singleton.mp hs]; exact fst_ok w h0 hn) S
theorem R1_ok {b : Bk} (w : WF b) (c : Cl) {n away : Int} (h0 : 0 ≤ away) (hn : away ≤ n) : FOk b n (R1 b c n away) ∧ ∃ more, R1 b c n away = (fst n away, []) :: more :=
  Rd_ok w c (firsts := [fst n away]) (by simp) (fun s hs => by rw [List.mem_singleton.mp hs]; exact fst_ok w h0 hn)
/-! ### sorted stands -/
theorem srt_sds {l : List Sd} (h : l ≠ []) : srtOk (l.map Sd.d) = true := by
  cases l with
  | nil => exact absurd rfl h
  | cons s l =>
    unfold srtOk
    have e : sgsD ((s :: l).map Sd.d) = [false, false, false, true] := rfl
    rw [e]
    simp
    exact ⟨rfl, fun t _ => rfl⟩
theorem sort_mem {x : DD} {xs : List DD} : x ∈ sortD xs ↔ x ∈ xs := (isrt_perm _ _).mem_iff
theorem sort_sds (l : List Sd) : ∃ l' : List Sd, sortD (l.map Sd.d) = l'.map Sd.d ∧ l'.Perm l := by
  refine ⟨isrt (fun s t => ltD (sgsD (l.map Sd.d)).length s.d t.d) l, ?_, isrt_perm _ _⟩
  exact (isrt_map (lt' := ltD (sgsD (l.map Sd.d)).length) Sd.d l fun x _ y _ => rfl).symm
theorem ksD_map (fs : Fd) : ksD fs = (fs.map (·.1)).map Sd.d := by unfold ksD; rw [List.map_map]; rfl
theorem bSorted_dct (fs : Fd) (h : fs ≠ []) : bSorted [.dct (ksD fs) (vsD fs)] = AU.ret (.lst (sortD (ksD fs))) := by
  have : srtOk (ksD fs) = true := by rw [ksD_map]; exact srt_sds (by simpa using h)
  simp [bSorted, this]
end AUL
namespace AUL
open PySem PySem.Spec PyProof.Rows L2 AU
/-! ### the search is closed, and finds nothing that it need not -/
def Cls (b : Bk) (c : Cl) (n : Int) (fs : Fd) (line : List Sd) : Prop := ∀ s ∈ fs.map (·.1), s ∈ line ∨ ∀ x ∈ stepsL b c n s, x.2.2 ∈ fs.map (·.1)
theorem putStep_new {s : Sd} {acc : Fd × List Sd} {x : Bool × Bool × Sd} : x.2.2 ∈ (putStep s acc x).1.map (·.1) := by
  unfold putStep
  split
  · rename_i h
    obtain ⟨ws, e⟩ := Option.isSome_iff_exists.mp h
    exact List.mem_map.mpr ⟨_, look_mem e, rfl⟩
  · simp
theorem steps_new {s : Sd} : ∀ {xs : List (Bool × Bool × Sd)} {acc : Fd × List Sd}, ∀ x ∈ xs, x.2.2 ∈ (xs.foldl (putStep s) acc).1.map (·.1)
  | [], _, x, hx => by cases hx
  | y :: xs, acc, x, hx => by
    rw [List.foldl_cons]
    rcases List.mem_cons.mp hx with e | e
    · subst e
      exact steps_mem putStep_new
    · exact steps_new x e
theorem layer_mem {st : Sd → List (Bool × Bool × Sd)} {t : Sd} : ∀ {line : List Sd} {acc : Fd × List Sd}, t ∈ acc.1.map (·.1) → t ∈ (layer st acc line).1.map (·.1)
  | [], _, h => h
  | s :: line, acc, h => layer_mem (line := line) (acc := (st s).foldl (putStep s) acc) (steps_mem h)
theorem layer_new {st : Sd → List (Bool × Bool × Sd)} : ∀ {line : List Sd} {acc : Fd × List Sd}, ∀ s ∈ line, ∀ x ∈ st s, x.2.2 ∈ (layer st acc line).1.map (·.1)
  | [], _, s, hs, _, _ => by cases hs
  | t :: line, acc, s, hs, x, hx => by
    rcases List.mem_cons.mp hs with e | e
    · subst e
      exact layer_mem (line := line) (acc := (st s).foldl (putStep s) acc) (steps_new x hx)
    · exact layer_new (line := line) (acc := (st t).foldl (putStep t) acc) s e x hx
theorem Cls.layer {b : Bk} (w : WF b) {c : Cl} {n : Int} {fs : Fd} {line : List Sd} (f : FOk b n fs) (h : ∀ s ∈ line, s ∈ fs.map (·.1)) (q : Cls b c n fs line) :
    Cls b c n (layer (stepsL b c n) (fs, []) line).1 (layer (stepsL b c n) (fs, []) line).2 := by
  obtain ⟨more, e1, e2⟩ := (AOk.layer w c (AOk.start f) h).ext
  intro s hs
  rw [e1, List.map_append] at hs
  rcases List.mem_append.mp hs with z | z
  · refine .inr fun x hx => ?_
    rcases q s z with q | q
    · exact layer_new s q x hx
    · exact layer_mem (acc := (fs, [])) (q x hx)
  · exact .inl (by rw [e2]; exact z)
theorem Cls.bfs {b : Bk} (w : WF b) {c : Cl} {n : Int} : ∀ (k : Nat) (fs : Fd) (line : List Sd), FOk b n fs → (∀ s ∈ line, s ∈ fs.map (·.1)) → (line = [] ∨ 8 * (n.toNat + 1) + 1 ≤ k + fs.length) → Cls b c n fs line → Cls b c n (bfs (stepsL b c n) k fs line) []
  | 0, fs, [], _, _, _, q => q
  | 0, fs, s :: l, f, _, hk, _ => by
    have := f.len w
    rcases hk with z | z
    · cases z
    · omega
  | k + 1, fs, [], _, _, _, q => q
  | k + 1, fs, s :: l, f, h, hk, q => by
    obtain ⟨f2, h2, hl⟩ := layer_next w c f h
    have hk2 : (AUL.layer (stepsL b c n) (fs, []) (s :: l)).2 = [] ∨ 8 * (n.toNat + 1) + 1 ≤ k + (AUL.layer (stepsL b c n) (fs, []) (s :: l)).1.length := by
      rcases hk with z | z
      · cases z
      · cases q : (AUL.layer (stepsL b c n) (fs, []) (s :: l)).2 with
        | nil => exact .inl rfl
        | cons a as =>
          right
          rw [hl, q]
          simp
          omega
    exact Cls.bfs w k _ _ f2 h2 hk2 (q.layer w f h)
theorem Rd_cls {b : Bk} (w : WF b) (c : Cl) {n : Int} {firsts : List Sd} (nd : firsts.Nodup) (ok : ∀ s ∈ firsts, SOk b n s) : ∀ s ∈ (Rd b c n firsts).map (·.1), ∀ x ∈ stepsL b c n s, x.2.2 ∈ (Rd b c n firsts).map (·.1) := fun s hs x hx => by
  have q : Cls b c n (Rd b c n firsts) [] := Cls.bfs w _ _ _ (fok_start nd ok) first_mem (.inr (by omega)) fun t ht => .inl (by
    rw [List.map_map] at ht
    obtain ⟨u, hu, rfl⟩ := List.mem_map.mp ht
    exact hu)
  rcases q s hs with z | z
  · cases z
  · exact z x hx
section
variable {b : Bk} {c : Cl} {n : Int} (P : Sd → Prop) (hP : ∀ s, P s → ∀ x ∈ stepsL b c n s, P x.2.2)
def Bth (P : Sd → Prop) (acc : Fd × List Sd) : Prop := (∀ s ∈ acc.1.map (·.1), P s) ∧ ∀ s ∈ acc.2, P s
theorem Bth.put {s : Sd} {acc : Fd × List Sd} {x : Bool × Bool × Sd} (h : Bth P acc) (hx : P x.2.2) : Bth P (putStep s acc x) := by
  unfold putStep
  split
  · exact h
  · refine ⟨fun t ht => ?_, fun t ht => ?_⟩
    · rw [List.map_append] at ht
      rcases List.mem_append.mp ht with z | z
      · exact h.1 t z
      · simp at z
        rw [z]
        exact hx
    · rcases List.mem_append.mp ht with z | z
      · exact h.2 t z
      · simp at z
        rw [z]
        exact hx
theorem Bth.steps {s : Sd} : ∀ {xs : List (Bool × Bool × Sd)} {acc : Fd × List Sd}, Bth P acc → (∀ x ∈ xs, P x.2.2) → Bth P (xs.foldl (putStep s) acc)
  | [], _, h, _ => h
  | x :: xs, acc, h, hx => by
    rw [List.foldl_cons]
    exact Bth.steps (h.put P (hx x (by simp))) fun y hy => hx y (by simp [hy])
include hP in
theorem Bth.layer : ∀ {line : List Sd} {acc : Fd × List Sd}, Bth P acc → (∀ s ∈ line, P s) → Bth P (layer (stepsL b c n) acc line)
  | [], _, h, _ => h
  | s :: line, acc, h, hl => Bth.layer (line := line) (acc := (stepsL b c n s).foldl (putStep s) acc) (h.steps P (hP s (hl s (by simp)))) fun t ht => hl t (by simp [ht])
include hP in
theorem sub_bfs : ∀ (k : Nat) (fs : Fd) (line : List Sd), (∀ s ∈ fs.map (·.1), P s) → (∀ s ∈ line, P s) → ∀ s ∈ (bfs (stepsL b c n) k fs line).map (·.1), P s
  | 0, fs, _, h, _ => h
  | k + 1, fs, [], h, _ => h
  | k + 1, fs, s :: l, h, hl => by
    have z : Bth P (layer (stepsL b c n) (fs, []) (s :: l)) := Bth.layer P hP ⟨h, fun t ht => by cases ht⟩ hl
    exact sub_bfs k _ _ z.1 z.2
end
theorem Rd_sub {b : Bk} (w : WF b) (c : Cl) {n : Int} {f1 f2 : List Sd} (nd : f2.Nodup) (ok : ∀ s ∈ f2, SOk b n s) (h : ∀ s ∈ f1, s ∈ f2) : ∀ s ∈ (Rd b c n f1).map (·.1), s ∈ (Rd b c n f2).map (·.1) := by
  have hf : ∀ s ∈ f1, s ∈ (Rd b c n f2).map (·.1) := fun s hs => by
    obtain ⟨_, more, e⟩ := Rd_ok w c nd ok
    rw [e, List.map_append]
    exact List.mem_append.mpr (.inl (first_mem s (h s hs)))
  refine sub_bfs (fun s => s ∈ (Rd b c n f2).map (·.1)) (Rd_cls w c nd ok) _ _ _ (fun s hs => ?_) hf
  rw [List.map_map] at hs
  obtain ⟨u, hu, rfl⟩ := List.mem_map.mp hs
  exact hf u hu
end AUL
namespace AUL
open PySem PySem.Spec PyProof.Rows L2 AU
/-! ### the first wet walk -/
def wetAt (b : Bk) (c : Cl) (n : Int) (s : Sd) : Bool := (stepsL b c n s).any fun x => x.2.1
def wetsL (b : Bk) (c : Cl) (n : Int) (s : Sd) : List Bool := (stepsL b c n s).map fun x => x.2.1
def shorter (k : Nat) : Option (List Bool) → Bool
  | none => true
  | some us => decide (k < us.length)
def bestS (b : Bk) (c : Cl) (n : Int) (best : Option (List Bool)) (p : Sd × List Bool) : Option (List Bool) := if (shorter (p.2.length + 1) best && wetAt b c n p.1) = true then some (p.2 ++ [true]) else best
def wetF (b : Bk) (c : Cl) (n : Int) (fs : Fd) : Option (List Bool) := fs.foldl (bestS b c n) none
def bestD : Option (List Bool) → DD
  | none => .non
  | some ws => vD ws
theorem memD_true (bs : List Bool) : memD (.bl true) (bs.map DD.bl) = bs.any id := by
  unfold memD
  induction bs with
  | nil => rfl
  | cons x bs ih =>
    simp only [List.map_cons, DD.pyA, List.any_cons, ih]
    cases x <;> rfl
theorem opIn_true (bs : List Bool) : opIn (.bl true) (.lst (bs.map DD.bl)) = AU.ret (.bl (bs.any id)) := by
  have e1 : eqOk (.bl true) = true := rfl
  have e2 : eqOk (.lst (bs.map DD.bl)) = true := eqOk_of (ok_blsL bs)
  show (if (eqOk (.bl true) && eqOk (.lst (bs.map DD.bl))) = true then AU.ret (DD.bl (false != memD (.bl true) (bs.map DD.bl))) else stk) = _
  rw [e1, e2, memD_true]
  simp
theorem best_len {best : Option (List Bool)} (h : ∀ ws, best = some ws → ws.length ≤ 20000) (k : Nat) (S : Sr) :
    (match best with
      | none => True
      | some ws => bLen [bestD best] S = some (.ok (.int ws.length), S)) := by
  cases best with
  | none => trivial
  | some ws => simp [bestD, vD]
theorem nodup_look {s : Sd} {ws : List Bool} : ∀ {fs : Fd}, (fs.map (·.1)).Nodup → (s, ws) ∈ fs → look s fs = some ws
  | p :: fs, nd, h => by
    obtain ⟨n1, n2⟩ := List.nodup_cons.mp nd
    unfold look
    rw [List.find?_cons]
    rcases List.mem_cons.mp h with e | e
    · rw [← e]
      simp
    · have : ¬ p.1 = s := fun z => n1 (List.mem_map.mpr ⟨_, e, z.symm⟩)
      rw [decide_eq_false this]
      exact nodup_look (fs := fs) n2 e
theorem all_look {b : Bk} {n : Int} {fs : Fd} (f : FOk b n fs) (hl : fs.length ≤ 20000) : ∀ p ∈ fs, SOk b n p.1 ∧ look p.1 fs = some p.2 ∧ p.2.length ≤ 20000 := fun p hp => by
  obtain ⟨a1, a2⟩ := f.ok p hp
  exact ⟨a1, nodup_look f.nd hp, by omega⟩
/-! ### the law's -/
def bestL (ws : List Bool) (best : Option (List Bool)) (x : Bool × Bool × Sd) : Option (List Bool) := if (x.2.1 && shorter (ws.length + 1) best) = true then some (ws ++ [true]) else best
theorem bestL_fold (ws : List Bool) : ∀ (xs : List (Bool × Bool × Sd)) (best : Option (List Bool)), xs.foldl (bestL ws) best = if (shorter (ws.length + 1) best && xs.any fun x => x.2.1) = true then some (ws ++ [true]) else best
  | [], best => by simp
  | x :: xs, best => by
    rw [List.foldl_cons, bestL_fold ws xs]
    unfold bestL
    rw [List.any_cons]
    cases x.2.1 with
    | false => simp only [Bool.false_or, Bool.false_and, Bool.false_eq_true, if_false]
    | true =>
      cases h2 : shorter (ws.length + 1) best with
      | false => simp [h2]
      | true => simp [h2, shorter]
theorem e_lw_b1 {b : Bk} (c : Cl) {n : Int} (v3 : DD) (fs : Fd) (best : Option (List Bool)) (s : Sd) (ws : List Bool) (x : Bool × Bool × Sd) (S : Sr) (hp : look s fs = some ws) (hl : ws.length ≤ 20000) :
    f__law_wet_b1 [some (.d (bookD b)), some (.d (.str c.s)), some (.d (.int n)), some (.d v3), some (.d (bestD best)), some (.d (.dct (ksD fs) (vsD fs))), some (.d s.d), some (.d (.bl x.1)), some (.d (.bl x.2.1)), some (.d x.2.2.d)] S =
      some (.nx [some (.d (bookD b)), some (.d (.str c.s)), some (.d (.int n)), some (.d v3), some (.d (bestD (bestL ws best x))), some (.d (.dct (ksD fs) (vsD fs))), some (.d s.d), some (.d (.bl x.1)), some (.d (.bl x.2.1)), some (.d x.2.2.d)] S) := by
  have e1 := getDD_sd s fs
  rw [hp] at e1
  have z2 : szOk (ws.length + 1) = true := decide_eq_true (by omega)
  have e6 : DD.tup (ws.map DD.bl ++ [.bl true]) = vD (ws ++ [true]) := by unfold vD; simp
  have ev : vD ws = .tup (ws.map DD.bl) := rfl
  cases hx : x.2.1 with
  | false => simp [f__law_wet_b1, bestL, hx]
  | true =>
    cases best with
    | none => simp [f__law_wet_b1, bestD, e1, ev, bestL, shorter, hx, z2, e6]
    | some us =>
      have eu : vD us = .tup (us.map DD.bl) := rfl
      by_cases hs : ws.length + 1 < us.length
      · have hs' : ((ws.length : Int) + 1 < us.length) := by omega
        simp [f__law_wet_b1, bestD, e1, ev, eu, bestL, shorter, hx, z2, e6, hs, hs']
      · have hs' : ¬ ((ws.length : Int) + 1 < us.length) := by omega
        simp [f__law_wet_b1, bestD, e1, ev, eu, bestL, shorter, hx, hs, hs']
theorem e_lw_in {b : Bk} (c : Cl) {n : Int} (v3 : DD) (fs : Fd) (s : Sd) (ws : List Bool) (hp : look s fs = some ws) (hl : ws.length ≤ 20000) : ∀ (xs : List (Bool × Bool × Sd)) (best : Option (List Bool)) (x7 x8 x9 : Option AU.It) (S : Sr),
    ∃ x7' x8' x9', forD (gT 3 (gsC (gN 7) (gsC (gN 8) (gsC (gN 9) gsN)))) f__law_wet_b1 (xs.map stepD) [some (.d (bookD b)), some (.d (.str c.s)), some (.d (.int n)), some (.d v3), some (.d (bestD best)), some (.d (.dct (ksD fs) (vsD fs))), some (.d s.d), x7, x8, x9] S =
      some (.nx [some (.d (bookD b)), some (.d (.str c.s)), some (.d (.int n)), some (.d v3), some (.d (bestD (xs.foldl (bestL ws) best))), some (.d (.dct (ksD fs) (vsD fs))), some (.d s.d), x7', x8', x9'] S)
  | [], best, x7, x8, x9, S => ⟨x7, x8, x9, rfl⟩
  | x :: xs, best, x7, x8, x9, S => by
    have e := e_lw_b1 (b := b) c (n := n) v3 fs best s ws x S hp hl
    obtain ⟨y7, y8, y9, ih⟩ := e_lw_in (b := b) c (n := n) v3 fs s ws hp hl xs (bestL ws best x) (some (.d (.bl x.1))) (some (.d (.bl x.2.1))) (some (.d x.2.2.d)) S
    refine ⟨y7, y8, y9, ?_⟩
    rw [List.map_cons, stepD_eq]
    unfold forD
    simp only [gT_app, gsC_app, gN_app, gsN_app, List.length_cons, List.length_nil, List.set_cons_succ, List.set_cons_zero, Option.bind_some, if_true, Nat.zero_add, Nat.reduceAdd, e]
    exact ih
theorem e_lw_loop {b : Bk} (w : WF b) (c : Cl) {n : Int} (v3 : DD) (fs : Fd) : ∀ (l : Fd) (best : Option (List Bool)) (x6 x7 x8 x9 : Option AU.It) (S : Sr), (∀ p ∈ l, SOk b n p.1 ∧ look p.1 fs = some p.2 ∧ p.2.length ≤ 20000) →
    ∃ x6' x7' x8' x9', forD (gN 6) f__law_wet_b2 (ksD l) [some (.d (bookD b)), some (.d (.str c.s)), some (.d (.int n)), some (.d v3), some (.d (bestD best)), some (.d (.dct (ksD fs) (vsD fs))), x6, x7, x8, x9] S =
      some (.nx [some (.d (bookD b)), some (.d (.str c.s)), some (.d (.int n)), some (.d v3), some (.d (bestD (l.foldl (bestS b c n) best))), some (.d (.dct (ksD fs) (vsD fs))), x6', x7', x8', x9'] S)
  | [], best, x6, x7, x8, x9, S, h => ⟨x6, x7, x8, x9, rfl⟩
  | p :: l, best, x6, x7, x8, x9, S, h => by
    obtain ⟨o, h1, h2⟩ := h p (by simp)
    obtain ⟨s, ws⟩ := p
    have e1 := e_next w c o (0, 0)
    obtain ⟨y7, y8, y9, e⟩ := e_lw_in (b := b) c (n := n) v3 fs s ws h1 h2 (stepsL b c n s) best x7 x8 x9 S
    have eb : (stepsL b c n s).foldl (bestL ws) best = bestS b c n best (s, ws) := by
      rw [bestL_fold]
      rfl
    rw [eb] at e
    obtain ⟨z6, z7, z8, z9, ih⟩ := e_lw_loop w c v3 fs l (bestS b c n best (s, ws)) (some (.d s.d)) y7 y8 y9 S fun q hq => h q (by simp [hq])
    refine ⟨z6, z7, z8, z9, ?_⟩
    have st : f__law_wet_b2 [some (.d (bookD b)), some (.d (.str c.s)), some (.d (.int n)), some (.d v3), some (.d (bestD best)), some (.d (.dct (ksD fs) (vsD fs))), some (.d s.d), x7, x8, x9] S = some (.nx [some (.d (bookD b)), some (.d (.str c.s)), some (.d (.int n)), some (.d v3), some (.d (bestD (bestS b c n best (s, ws)))), some (.d (.dct (ksD fs) (vsD fs))), some (.d s.d), y7, y8, y9] S) := by
      simp [f__law_wet_b2, e1]
      simpa using e
    have ek : ksD ((s, ws) :: l) = s.d :: ksD l := rfl
    rw [ek]
    unfold forD
    simp only [gN_app, List.set_cons_succ, List.set_cons_zero, st]
    exact ih
theorem e_law_wet {b : Bk} (w : WF b) (c : Cl) {n : Int} (hn : n ≤ 1000) {firsts : List Sd} (nd : firsts.Nodup) (ok : ∀ s ∈ firsts, SOk b n s) (S : Sr) :
    m__law_wet [.d (bookD b), .d (.str c.s), .d (.int n), .d (.lst (firsts.map Sd.d))] S = some (.ok (bestD (wetF b c n (Rd b c n firsts))), S) := by
  have e1 := e_law_reached w c hn nd ok (0, 0)
  obtain ⟨f, _⟩ := Rd_ok w c nd ok
  have hl := f.len w
  obtain ⟨y6, y7, y8, y9, e2⟩ := e_lw_loop w c (.lst (firsts.map Sd.d)) (Rd b c n firsts) (Rd b c n firsts) none none none none none S (all_look f (by omega))
  have e2' : forD (gN 6) f__law_wet_b2 (ksD (Rd b c n firsts)) [some (.d (bookD b)), some (.d (.str c.s)), some (.d (.int n)), some (.d (.lst (firsts.map Sd.d))), some (.d .non), some (.d (.dct (ksD (Rd b c n firsts)) (vsD (Rd b c n firsts)))), none, none, none, none] S = _ := e2
  simp [m__law_wet, runB, env0, f__law_wet, e1, e2', wetF]
/-! ### what the best one is -/
theorem fold_best (b : Bk) (c : Cl) (n : Int) : ∀ (l : Fd) (best : Option (List Bool)), (l.foldl (bestS b c n) best = best ∨ ∃ p ∈ l, wetAt b c n p.1 = true ∧ l.foldl (bestS b c n) best = some (p.2 ++ [true])) ∧
    (∀ p ∈ l, wetAt b c n p.1 = true → ∃ us, l.foldl (bestS b c n) best = some us ∧ us.length ≤ p.2.length + 1) ∧ (∀ us, best = some us → ∃ vs, l.foldl (bestS b c n) best = some vs ∧ vs.length ≤ us.length)
  | [], best => ⟨.inl rfl, (fun p hp => by cases hp), fun us h => ⟨us, h, Nat.le_refl _⟩⟩
  | p :: l, best => by
    obtain ⟨i1, i2, i3⟩ := fold_best b c n l (bestS b c n best p)
    have hb : (bestS b c n best p = best ∧ (wetAt b c n p.1 = true → ∃ us, best = some us ∧ us.length ≤ p.2.length + 1)) ∨ (bestS b c n best p = some (p.2 ++ [true]) ∧ wetAt b c n p.1 = true ∧ ∀ us, best = some us → p.2.length + 1 ≤ us.length) := by
      unfold bestS
      by_cases h : (shorter (p.2.length + 1) best && wetAt b c n p.1) = true
      · rw [if_pos h]
        obtain ⟨h1, h2⟩ := Bool.and_eq_true_iff.mp h
        refine .inr ⟨rfl, h2, fun us e => ?_⟩
        rw [e] at h1
        have := of_decide_eq_true h1
        omega
      · rw [if_neg h]
        refine .inl ⟨rfl, fun hw => ?_⟩
        rw [hw, Bool.and_true] at h
        cases best with
        | none => exact absurd rfl h
        | some us =>
          refine ⟨us, rfl, ?_⟩
          have : ¬ (p.2.length + 1 < us.length) := fun z => h (decide_eq_true z)
          omega
    rw [List.foldl_cons]
    refine ⟨?_, fun q hq hw => ?_, fun us h => ?_⟩
    · rcases i1 with e | ⟨q, hq, hw, e⟩
      · rcases hb with ⟨e2, _⟩ | ⟨e2, hw, _⟩
        · exact .inl (e.trans e2)
        · exact .inr ⟨p, by simp, hw, e.trans e2⟩
      · exact .inr ⟨q, by simp [hq], hw, e⟩
    · rcases List.mem_cons.mp hq with e | e
      · subst e
        rcases hb with ⟨e2, h2⟩ | ⟨e2, _, _⟩
        · obtain ⟨us, e3, e4⟩ := h2 hw
          obtain ⟨vs, e5, e6⟩ := i3 us (by rw [e2]; exact e3)
          exact ⟨vs, e5, by omega⟩
        · obtain ⟨vs, e5, e6⟩ := i3 _ e2
          simp at e6
          exact ⟨vs, e5, e6⟩
      · exact i2 q e hw
    · rcases hb with ⟨e2, _⟩ | ⟨e2, _, h3⟩
      · exact i3 us (by rw [e2]; exact h)
      · obtain ⟨vs, e5, e6⟩ := i3 _ e2
        have := h3 us h
        simp at e6
        exact ⟨vs, e5, by omega⟩
theorem wetF_some {b : Bk} {c : Cl} {n : Int} {fs : Fd} {us : List Bool} (h : wetF b c n fs = some us) : (∃ p ∈ fs, wetAt b c n p.1 = true ∧ us = p.2 ++ [true]) ∧ ∀ p ∈ fs, wetAt b c n p.1 = true → us.length ≤ p.2.length + 1 := by
  obtain ⟨h1, h2, _⟩ := fold_best b c n fs none
  unfold wetF at h
  rw [h] at h1 h2
  refine ⟨?_, fun p hp hw => ?_⟩
  · rcases h1 with e | ⟨p, hp, hw, e⟩
    · cases e
    · exact ⟨p, hp, hw, Option.some.inj e⟩
  · obtain ⟨vs, e, hl⟩ := h2 p hp hw
    cases e
    exact hl
theorem wetF_none {b : Bk} {c : Cl} {n : Int} {fs : Fd} (h : wetF b c n fs = none) : ∀ p ∈ fs, wetAt b c n p.1 = false := fun p hp => by
  obtain ⟨_, h2, _⟩ := fold_best b c n fs none
  cases hw : wetAt b c n p.1 with
  | false => rfl
  | true =>
    obtain ⟨vs, e, _⟩ := h2 p hp hw
    unfold wetF at h
    rw [h] at e
    cases e
end AUL
namespace AUL
open PySem PySem.Spec PyProof.Rows L2 AU SrtO
/-! ### stands in tuples and sets -/
theorem sd_py (s : Sd) : s.d.py = .tuple [.int (pI s.p), .int (s.m : Nat), .int s.h, .bool s.l] := rfl
theorem pI_inj {p q : Bool} : pI p = pI q ↔ p = q := by cases p <;> cases q <;> simp [pI]
theorem eqv_sd (s t : Sd) : PyData.eqv s.d.py t.d.py = decide (s = t) := by
  rw [sd_py, sd_py]
  obtain ⟨p, m, h, l⟩ := s
  obtain ⟨p', m', h', l'⟩ := t
  have e : (Sd.mk p m h l = Sd.mk p' m' h' l') ↔ (pI p = pI p' ∧ (m : Int) = (m' : Int) ∧ h = h' ∧ l = l') := by
    rw [Sd.mk.injEq, pI_inj]
    constructor
    · rintro ⟨a, b, c, d⟩; exact ⟨a, by rw [b], c, d⟩
    · rintro ⟨a, b, c, d⟩; exact ⟨a, by omega, c, d⟩
  rw [show decide (Sd.mk p m h l = Sd.mk p' m' h' l') = decide (pI p = pI p' ∧ (m : Int) = (m' : Int) ∧ h = h' ∧ l = l') from decide_eq_decide.mpr e]
  simp only [PyData.eqv, PyData.eqvAll, Bool.and_true, Bool.decide_and]
  rfl
theorem memD_sd (s : Sd) : ∀ l : List Sd, memD s.d (l.map Sd.d) = decide (s ∈ l)
  | [] => rfl
  | t :: l => by
    have ih := memD_sd s l
    unfold memD at ih ⊢
    rw [List.map_cons, DD.pyA, List.any_cons, ih, eqv_sd, ← Bool.decide_or]
    refine decide_eq_decide.mpr ?_
    rw [List.mem_cons, eq_comm]
theorem ok_sdT (l : List Sd) : okN 2 (.tup (l.map Sd.d)) = true := okN_tup fun x hx => by
  obtain ⟨s, _, rfl⟩ := List.mem_map.mp hx
  exact ok_sd s
theorem inG_sd (c : Bool) (s : Sd) (l : List Sd) : inG c s.d (.tup (l.map Sd.d)) = AU.ret (.bl (c != decide (s ∈ l))) := by
  have e1 : eqOk s.d = true := eqOk_of (ok_sd s)
  have e2 : eqOk (.tup (l.map Sd.d)) = true := eqOk_of (ok_sdT l)
  show (if (eqOk s.d && eqOk (.tup (l.map Sd.d))) = true then AU.ret (DD.bl (c != memD s.d (l.map Sd.d))) else stk) = _
  rw [e1, e2, memD_sd]
  simp
theorem k_ok (s : Sd) : (SA.flatK s.k && nkPlain s.k) = true := by
  simp [Sd.k, SA.flatK, nkPlain, nkPlainA]
theorem keyOk_sd (s : Sd) : keyOk s.d = true := by
  unfold keyOk
  rw [key_d]
  exact k_ok s
theorem setOk_sds {l : List Sd} (h : l.length < 300) : setOk (l.map Sd.d) = true := by
  unfold setOk
  rw [List.length_map, decide_eq_true h, Bool.true_and, List.all_map, List.all_eq_true]
  exact fun s _ => keyOk_sd s
theorem bSet_sds {l : List Sd} (h : l.length < 300) : bSet [.tup (l.map Sd.d)] = AU.ret (.set (l.map Sd.d)) := by
  rw [bSet_1, if_pos (setOk_sds h)]
theorem inS_sd (c : Bool) (s : Sd) (l : List Sd) : opInS c s.d (.set (l.map Sd.d)) = AU.ret (.bl (c != decide (s ∈ l))) := by
  show (match keyD s.d with
    | some k => if (SA.flatK k && nkPlain k) = true then AU.ret (.bl (c != decide (some k ∈ (l.map Sd.d).map keyD))) else stk
    | none => stk : M DD) = _
  rw [key_d]
  simp only [k_ok, if_true]
  have : (some s.k ∈ (l.map Sd.d).map keyD) ↔ s ∈ l := by
    rw [List.map_map, List.mem_map]
    constructor
    · rintro ⟨t, ht, e⟩
      have e : keyD t.d = some s.k := e
      rw [key_d] at e
      rw [← k_inj.mp (Option.some.inj e)]
      exact ht
    · intro h
      exact ⟨s, h, key_d s⟩
  rw [decide_eq_decide.mpr this]
/-! ### ascending -/
def ltS (s t : Sd) : Bool := lexL (fkD s.d) (fkD t.d)
def Asc (l : List Sd) : Prop := l.Pairwise fun s t => ltS s t = true
theorem cut_ltS (s : Sd) : cutK 4 (fkD s.d) = fkD s.d := cutK_id rfl
theorem sd_inj {s t : Sd} (h : s.d = t.d) : s = t := by
  have e := key_d s
  rw [h, key_d] at e
  exact (k_inj.mp (Option.some.inj e)).symm
theorem flat_sd (s : Sd) : flatOk [false, false, false, true] s.d = true := rfl
theorem asc_of {l : List Sd} (nd : l.Nodup) (h : Srtd (ltD 4) (l.map Sd.d)) : Asc l := by
  have h := List.pairwise_map.mp h
  refine (List.Pairwise.and nd h).imp fun {s t} ⟨a, b⟩ => ?_
  unfold ltS
  cases q : lexL (fkD s.d) (fkD t.d) with
  | true => rfl
  | false =>
    refine absurd (sd_inj (ltD_eq (sg := [false, false, false, true]) (flat_sd s) (flat_sd t) ?_ b)) a
    show lexL (cutK 4 (fkD s.d)) (cutK 4 (fkD t.d)) = false
    rw [cut_ltS, cut_ltS]
    exact q
theorem sgs_sds {l : List Sd} (h : l ≠ []) : (sgsD (l.map Sd.d)).length = 4 := by
  cases l with
  | nil => exact absurd rfl h
  | cons s l => rfl
/-- the sorted stands -/
theorem sort_asc {l : List Sd} (hl : l ≠ []) (nd : l.Nodup) : ∃ l' : List Sd, sortD (l.map Sd.d) = l'.map Sd.d ∧ l'.Perm l ∧ Asc l' := by
  obtain ⟨l', e, p⟩ := sort_sds l
  refine ⟨l', e, p, asc_of (p.nodup_iff.mpr nd) ?_⟩
  rw [← e]
  have := isrt_srtd (ltD_swo (sgsD (l.map Sd.d)).length) (l.map Sd.d)
  rw [sgs_sds hl] at this
  unfold sortD
  rw [sgs_sds hl]
  exact this
theorem pull_sds : ∀ {ds : List DD} {l : List Sd}, (∀ d ∈ ds, d ∈ l.map Sd.d) → ∃ l' : List Sd, ds = l'.map Sd.d ∧ ∀ s ∈ l', s ∈ l
  | [], l, _ => ⟨[], rfl, fun s h => by cases h⟩
  | d :: ds, l, h => by
    obtain ⟨s, hs, rfl⟩ := List.mem_map.mp (h d (by simp))
    obtain ⟨l', rfl, h2⟩ := pull_sds (ds := ds) fun x hx => h x (by simp [hx])
    refine ⟨s :: l', rfl, fun t ht => ?_⟩
    rcases List.mem_cons.mp ht with rfl | ht
    · exact hs
    · exact h2 t ht
theorem srtSet_asc {l : List Sd} (hl : l ≠ []) : ∃ l' : List Sd, srtSetD (l.map Sd.d) = l'.map Sd.d ∧ (∀ s ∈ l', s ∈ l) ∧ Asc l' := by
  obtain ⟨l', e, hs⟩ := pull_sds (ds := srtSetD (l.map Sd.d)) (l := l) fun d hd => dedD_sub d ((isrt_perm _ _).mem_iff.mp hd)
  refine ⟨l', e, hs, ?_⟩
  have nd : l'.Nodup := by
    have h1 : ((srtSetD (l.map Sd.d)).map keyD).Nodup := ((isrt_perm _ _).map keyD).nodup_iff.mpr dedD_nd
    rw [e, List.map_map] at h1
    exact List.Pairwise.of_map (S := fun a b => a ≠ b) (keyD ∘ Sd.d) (fun a b h e => h (by rw [e])) h1
  refine asc_of nd ?_
  rw [← e]
  unfold srtSetD
  rw [sgs_sds hl]
  exact isrt_srtd (ltD_swo 4) _
theorem Asc.nodup {l : List Sd} (h : Asc l) : l.Nodup := List.Pairwise.imp (fun {s t} h e => by
  subst e
  unfold ltS at h
  rw [lexL_refl] at h
  cases h) h
theorem nodup_few {b : Bk} (w : WF b) {n : Int} {l : List Sd} (nd : l.Nodup) (ok : ∀ s ∈ l, SOk b n s) : l.length ≤ 8 * (n.toNat + 1) := by
  have f : FOk b n (l.map fun s => (s, [])) := fok_start nd ok
  have := f.len w
  rwa [List.length_map] at this
/-! ### t[i:], t[:i] -/
theorem cut_to (xs : List DD) (i : Nat) (h : i ≤ xs.length) : AU.cutD xs none (some (i : Int)) = xs.take i := by
  unfold AU.cutD HT.sIx
  simp only [List.drop_zero, Nat.sub_zero]
  rw [if_neg (by omega), Int.toNat_natCast, Nat.min_eq_left h]
theorem cut_from (xs : List DD) (i : Nat) (h : i ≤ xs.length) : AU.cutD xs (some (i : Int)) none = xs.drop i := by
  unfold AU.cutD HT.sIx
  simp only []
  rw [if_neg (by omega), Int.toNat_natCast, Nat.min_eq_left h]
  exact List.take_of_length_le (by rw [List.length_drop]; omega)
theorem cut_from1 (xs : List DD) : AU.cutD xs (some 1) none = xs.drop 1 := by
  cases xs with
  | nil => rfl
  | cons x xs => exact cut_from (x :: xs) 1 (by simp)
end AUL
namespace AUL
open PySem PySem.Spec PyProof.Rows L2 AU SrtO
@[simp] theorem at40 (x y z u : DD) : atI [x, y, z, u] 0 = some x := AU.atI_nat (i := 0) rfl
@[simp] theorem at41 (x y z u : DD) : atI [x, y, z, u] 1 = some y := AU.atI_nat (i := 1) rfl
@[simp] theorem at42 (x y z u : DD) : atI [x, y, z, u] 2 = some z := AU.atI_nat (i := 2) rfl
@[simp] theorem at43 (x y z u : DD) : atI [x, y, z, u] 3 = some u := AU.atI_nat (i := 3) rfl
theorem isFrom_int {i lo hi : Int} (h1 : lo ≤ i) (h2 : i ≤ hi) : isFrom (.int i) lo hi = true := by simp [isFrom, h1, h2]
theorem e_is_stand {b : Bk} {n : Int} {s : Sd} (o : SOk b n s) (S : Sr) : m_is_stand [.d (bookD b), .d (.int n), .d s.d] S = some (.ok (.bl true), S) := by
  have eb : bookD b = .tup (b.map moodD) := rfl
  have es : s.d = .tup [.int (pI s.p), .int (s.m : Nat), .int s.h, .bl s.l] := rfl
  have hm := o.m
  have f0 := fun S => e_is_from (.int (pI s.p)) 0 1 S rfl
  have f1 := fun S => e_is_from (.int (s.m : Nat)) 0 ((b.length : Int) - 1) S rfl
  have f2 := fun S => e_is_from (.int s.h) 0 n S rfl
  rw [isFrom_int (by cases s.p <;> decide) (by cases s.p <;> decide)] at f0
  rw [isFrom_int (by omega) (by omega)] at f1
  rw [isFrom_int o.h0 o.h1] at f2
  rw [eb, es]
  simp [m_is_stand, runB, env0, f_is_stand, f0, f1, f2]
theorem zip_asc : ∀ {l : List Sd}, Asc l → ∀ p ∈ l.zip (l.drop 1), ltS p.1 p.2 = true
  | [], _, p, h => by simp at h
  | [s], _, p, h => by simp at h
  | s :: t :: l, a, p, h => by
    obtain ⟨a1, a2⟩ := List.pairwise_cons.mp a
    rw [List.drop_one, List.tail_cons, List.zip_cons_cons] at h
    rcases List.mem_cons.mp h with rfl | h
    · exact a1 t (by simp)
    · have := zip_asc (l := t :: l) a2 p (by rw [List.drop_one, List.tail_cons]; exact h)
      exact this
theorem zipD_map {α β : Type} (f : α → DD) (g : β → DD) : ∀ (xs : List α) (ys : List β), zipD (xs.map f) (ys.map g) = (xs.zip ys).map fun p => DD.tup [f p.1, g p.2]
  | [], _ => rfl
  | _ :: _, [] => rfl
  | x :: xs, y :: ys => by
    rw [List.map_cons, List.map_cons, zipD, zipD_map f g xs ys]
    rfl
theorem ltT_sd (s t : Sd) : opLtT s.d t.d = AU.ret (.bl (ltS s t)) := rfl
/-- ascending stands are a paper by their form -/
theorem e_need_paper {b : Bk} {n : Int} {l : List Sd} (ok : ∀ s ∈ l, SOk b n s) (a : Asc l) (hl : l.length < 300) (S : Sr) : m_need_paper [.d (bookD b), .d (.int n), .d (.tup (l.map Sd.d))] S = some (.ok .non, S) := by
  have hz : szOk l.length = true := decide_eq_true (by omega)
  have e1 : ∀ (x3 x4 x5 : Option AU.It) (S : Sr), lcD (gN 3) tYesD (eCall m_is_stand (iCons (eVar 0) (iCons (eVar 1) (iCons (eVar 3) iNil)))) [some (.d (bookD b)), some (.d (.int n)), some (.d (.tup (l.map Sd.d))), x3, x4, x5] (l.map Sd.d) S = some (.ok (l.map fun _ => DD.bl true), S) := fun x3 x4 x5 S => by
    refine lcD_mapF (h := Sd.d) (fun _ => DD.bl true) fun s hs => ⟨_, rfl, ?_⟩
    have := fun S => e_is_stand (ok s hs) S
    simp [this]
  have e2 : ∀ S : Sr, bAll [.lst (l.map fun _ => DD.bl true)] S = some (.ok (.bl true), S) := fun S => by
    rw [bAll_map l fun _ => true, List.all_eq_true.mpr fun _ _ => rfl]
    rfl
  have ez : zipD (l.map Sd.d) (AU.cutD (l.map Sd.d) (some 1) none) = (l.zip (l.drop 1)).map fun p => DD.tup [p.1.d, p.2.d] := by
    rw [cut_from1, ← List.map_drop, zipD_map]
  have e3 : ∀ (x3 x4 x5 : Option AU.It) (S : Sr), lcD (gT 2 (gsC (gN 4) (gsC (gN 5) gsN))) tYesD (eOp opLtT (eVar 4) (eVar 5)) [some (.d (bookD b)), some (.d (.int n)), some (.d (.tup (l.map Sd.d))), x3, x4, x5] ((l.zip (l.drop 1)).map fun p => DD.tup [p.1.d, p.2.d]) S = some (.ok ((l.zip (l.drop 1)).map fun _ => DD.bl true), S) := fun x3 x4 x5 S => by
    refine lcD_mapF (h := fun p : Sd × Sd => DD.tup [p.1.d, p.2.d]) (fun _ => DD.bl true) fun p hp => ⟨_, rfl, ?_⟩
    have := zip_asc a p hp
    simp [ltT_sd, this]
  have e4 : ∀ S : Sr, bAll [.lst ((l.zip (l.drop 1)).map fun _ => DD.bl true)] S = some (.ok (.bl true), S) := fun S => by
    rw [bAll_map (l.zip (l.drop 1)) fun _ => true, List.all_eq_true.mpr fun _ _ => rfl]
    rfl
  have hz2 : szOk (l.zip (l.drop 1)).length = true := decide_eq_true (by rw [List.length_zip]; omega)
  have hz3 : szOk (l.map Sd.d).length = true := decide_eq_true (by rw [List.length_map]; omega)
  generalize bookD b = B at *
  generalize hT : l.map Sd.d = T at *
  generalize (l.map fun _ => DD.bl true) = T1 at *
  generalize ((l.zip (l.drop 1)).map fun _ => DD.bl true) = T2 at *
  generalize l.zip (l.drop 1) = Z at *
  simp [m_need_paper, runB, env0, f_need_paper, e1, e2, ez, e3, e4, hz2, hz3]
/-- dry by all of these -/
theorem e_is_dry {b : Bk} (w : WF b) (c : Cl) {n : Int} {l : List Sd} (ok : ∀ s ∈ l, SOk b n s) (hl : l.length < 300) (S : Sr) :
    m_is_dry [.d (bookD b), .d (.str c.s), .d (.int n), .d (.tup (l.map Sd.d))] S = some (.ok (.bl (!(l.any (wetAt b c n)))), S) := by
  have e1 : ∀ (x4 x5 x6 x7 : Option AU.It) (S : Sr), lcD (gN 4) tYesD (eB bAny (aCons (eLc [5, 6, 7] (jSeq (eCall m_steps_of (iCons (eVar 0) (iCons (eVar 1) (iCons (eVar 2) (iCons (eVar 4) iNil)))))) (gT 3 (gsC (gN 5) (gsC (gN 6) (gsC (gN 7) gsN)))) tYesD (eVar 6)) aNil)) [some (.d (bookD b)), some (.d (.str c.s)), some (.d (.int n)), some (.d (.tup (l.map Sd.d))), x4, x5, x6, x7] (l.map Sd.d) S = some (.ok (l.map fun s => DD.bl (wetAt b c n s)), S) := fun x4 x5 x6 x7 S => by
    refine lcD_mapF (h := Sd.d) (fun s => DD.bl (wetAt b c n s)) fun s hs => ⟨_, rfl, ?_⟩
    have f1 := fun S => e_steps_of w c (ok s hs) S
    have hz : szOk (stepsL b c n s).length = true := by
      have : (stepsL b c n s).length ≤ 2 := by
        unfold stepsL
        rcases rains_cases c s with ⟨r, h⟩ | h <;> simp [h]
      exact decide_eq_true (by omega)
    have f2 : ∀ (env : Env) (S : Sr), env.length = 8 → lcD (gT 3 (gsC (gN 5) (gsC (gN 6) (gsC (gN 7) gsN)))) tYesD (eVar 6) env ((stepsL b c n s).map stepD) S = some (.ok ((stepsL b c n s).map fun x => DD.bl x.2.1), S) := fun env S he => by
      match env, he with
      | [y0, y1, y2, y3, y4, y5, y6, y7], _ =>
        refine lcD_mapF (h := stepD) (fun x => DD.bl x.2.1) fun x hx => ⟨_, rfl, ?_⟩
        simp
    have f3 : ∀ S : Sr, bAny [.lst ((stepsL b c n s).map fun x => DD.bl x.2.1)] S = some (.ok (.bl (wetAt b c n s)), S) := fun S => by
      rw [bAny_map (stepsL b c n s) fun x => x.2.1]
      rfl
    simp [f1, f2, f3, hz]
  have e2 : ∀ S : Sr, bAny [.lst (l.map fun s => DD.bl (wetAt b c n s))] S = some (.ok (.bl (l.any (wetAt b c n))), S) := fun S => by
    rw [bAny_map l (wetAt b c n)]
    rfl
  have hz3 : szOk l.length = true := decide_eq_true (by omega)
  simp [m_is_dry, runB, env0, f_is_dry, e1, e2, hz3]
end AUL
namespace AUL
open PySem PySem.Spec PyProof.Rows L2 AU SrtO
/-- whether stands show that one never gets wet -/
def shB (b : Bk) (c : Cl) (n away : Int) (l : List Sd) : Bool := decide (fst n away ∈ l) && (!(l.any (wetAt b c n)) && l.all fun s => (stepsL b c n s).all fun x => decide (x.2.2 ∈ l))
theorem steps_few (b : Bk) (c : Cl) (n : Int) (s : Sd) : (stepsL b c n s).length ≤ 2 := by
  unfold stepsL
  rcases rains_cases c s with ⟨r, h⟩ | h <;> simp [h]
theorem stepD_at2 (x : Bool × Bool × Sd) : atI [.bl x.1, .bl x.2.1, x.2.2.d] 2 = some x.2.2.d := AU.atI_nat (i := 2) rfl
section
variable {b : Bk} (w : WF b) (c : Cl) {n away : Int} (h0 : 0 ≤ away) (hn : away ≤ n)
include w h0 hn
theorem e_is_paper (hg : n ≤ 30) {l : List Sd} (ok : ∀ s ∈ l, SOk b n s) (a : Asc l) (hl : l.length < 300) (S : Sr) :
    m_is_paper [.d (bookD b), .d (.str c.s), .d (.int n), .d (.int away), .d (.tup (l.map Sd.d))] S = some (.ok (.bl (shB b c n away l)), S) := by
  have g1 := fun S => e_nf w c h0 hn hg S
  have g2 := fun S => e_need_paper ok a hl S
  have g3 := fun S => e_first_stand n away S
  have g4 := fun S => e_is_dry w c ok hl S
  have g5 := fun S : Sr => congrFun (bSet_sds hl) S
  have g5 : ∀ S : Sr, bSet [.tup (l.map Sd.d)] S = some (.ok (.set (l.map Sd.d)), S) := g5
  have g6 : ∀ S : Sr, opInS true (fst n away).d (.set (l.map Sd.d)) S = some (.ok (.bl (!decide (fst n away ∈ l))), S) := fun S => by
    have := congrFun (inS_sd true (fst n away) l) S
    rw [Bool.true_bne] at this
    exact this
  have e1 : ∀ (x6 x7 : Option AU.It) (S : Sr), lcD (gN 6) tYesD (eB bAll (aCons (eLc [7] (jSeq (eCall m_steps_of (iCons (eVar 0) (iCons (eVar 1) (iCons (eVar 2) (iCons (eVar 6) iNil)))))) (gN 7) tYesD (eOp (opInS false) (eOp opIx (eVar 7) (eC (.int 2))) (eVar 5))) aNil)) [some (.d (bookD b)), some (.d (.str c.s)), some (.d (.int n)), some (.d (.int away)), some (.d (.tup (l.map Sd.d))), some (.d (.set (l.map Sd.d))), x6, x7] (l.map Sd.d) S = some (.ok (l.map fun s => DD.bl ((stepsL b c n s).all fun x => decide (x.2.2 ∈ l))), S) := fun x6 x7 S => by
    refine lcD_mapF (h := Sd.d) (fun s => DD.bl ((stepsL b c n s).all fun x => decide (x.2.2 ∈ l))) fun s hs => ⟨_, rfl, ?_⟩
    have f1 := fun S => e_steps_of w c (ok s hs) S
    have hz : szOk (stepsL b c n s).length = true := decide_eq_true (by have := steps_few b c n s; omega)
    have f2 : ∀ (y0 y1 y2 y3 y4 y6 y7 : Option AU.It) (S : Sr), lcD (gN 7) tYesD (eOp (opInS false) (eOp opIx (eVar 7) (eC (.int 2))) (eVar 5)) [y0, y1, y2, y3, y4, some (.d (.set (l.map Sd.d))), y6, y7] ((stepsL b c n s).map stepD) S = some (.ok ((stepsL b c n s).map fun x => DD.bl (decide (x.2.2 ∈ l))), S) := fun y0 y1 y2 y3 y4 y6 y7 S => by
      refine lcD_mapF (h := stepD) (fun x => DD.bl (decide (x.2.2 ∈ l))) fun x hx => ⟨_, rfl, ?_⟩
      have i1 : ∀ S : Sr, opInS false x.2.2.d (.set (l.map Sd.d)) S = some (.ok (.bl (decide (x.2.2 ∈ l))), S) := fun S => by
        have := congrFun (inS_sd false x.2.2 l) S
        rw [Bool.false_bne] at this
        exact this
      clear g1 g2 g3 g4 g5 g6
      have i2 := stepD_at2 x
      simp [i1, i2]
    have f3 : ∀ S : Sr, bAll [.lst ((stepsL b c n s).map fun x => DD.bl (decide (x.2.2 ∈ l)))] S = some (.ok (.bl ((stepsL b c n s).all fun x => decide (x.2.2 ∈ l))), S) := fun S => by
      rw [bAll_map (stepsL b c n s) fun x => decide (x.2.2 ∈ l)]
      rfl
    have hz3 : szOk ((stepsL b c n s).map stepD).length = true := by rw [List.length_map]; exact hz
    generalize ((stepsL b c n s).map fun x => DD.bl (decide (x.2.2 ∈ l))) = T2 at *
    generalize ((stepsL b c n s).all fun x => decide (x.2.2 ∈ l)) = r at *
    generalize (stepsL b c n s).map stepD = T1 at *
    simp [f1, f2, f3, hz3]
  have e2 : ∀ S : Sr, bAll [.lst (l.map fun s => DD.bl ((stepsL b c n s).all fun x => decide (x.2.2 ∈ l)))] S = some (.ok (.bl (l.all fun s => (stepsL b c n s).all fun x => decide (x.2.2 ∈ l))), S) := fun S => by
    rw [bAll_map l fun s => (stepsL b c n s).all fun x => decide (x.2.2 ∈ l)]
    rfl
  have hz : szOk (l.map Sd.d).length = true := by rw [List.length_map]; exact decide_eq_true (by omega)
  have hz2 : szOk (l.map fun s => DD.bl ((stepsL b c n s).all fun x => decide (x.2.2 ∈ l))).length = true := by rw [List.length_map]; exact decide_eq_true (by omega)
  unfold shB
  generalize (l.map fun s => DD.bl ((stepsL b c n s).all fun x => decide (x.2.2 ∈ l))) = T2 at *
  generalize (l.all fun s => (stepsL b c n s).all fun x => decide (x.2.2 ∈ l)) = r at *
  generalize l.map Sd.d = T at *
  generalize (fst n away).d = D at *
  generalize decide (fst n away ∈ l) = q at *
  generalize l.any (wetAt b c n) = u at *
  generalize bookD b = Bd at *
  cases q <;> cases u <;> simp [m_is_paper, runB, env0, f_is_paper, g1, g2, g3, g4, g5, g6, e1, e2, hz, hz2]
omit h0 hn in
theorem e_sh_b1 (l : List Sd) (x0 x1 x2 x3 x5 x6 : Option AU.It) (x : Bool × Bool × Sd) (S : Sr) :
    f__law_shows_b1 [x0, x1, x2, x3, some (.d (.tup (l.map Sd.d))), x5, x6, some (.d (.bl x.2.1)), some (.d x.2.2.d)] S = (if (!x.2.1 && decide (x.2.2 ∈ l)) = true then some (.nx [x0, x1, x2, x3, some (.d (.tup (l.map Sd.d))), x5, x6, some (.d (.bl x.2.1)), some (.d x.2.2.d)] S) else some (.rt (.bl false) S)) := by
  have i1 : ∀ S : Sr, opNotIn x.2.2.d (.tup (l.map Sd.d)) S = some (.ok (.bl (!decide (x.2.2 ∈ l))), S) := fun S => by
    have := congrFun (inG_sd true x.2.2 l) S
    rw [Bool.true_bne] at this
    exact this
  generalize DD.tup (l.map Sd.d) = T at *
  generalize x.2.2.d = D at *
  generalize decide (x.2.2 ∈ l) = q at *
  cases x.2.1 <;> cases q <;> simp [f__law_shows_b1, i1]
omit h0 hn in
theorem e_sh_in (l : List Sd) (x0 x1 x2 x3 x5 : Option AU.It) : ∀ (xs : List (Bool × Bool × Sd)) (x6 x7 x8 : Option AU.It) (S : Sr),
    ((xs.all fun x => !x.2.1 && decide (x.2.2 ∈ l)) = true ∧ ∃ y6 y7 y8, forD (gT 3 (gsC (gN 6) (gsC (gN 7) (gsC (gN 8) gsN)))) f__law_shows_b1 (xs.map stepD) [x0, x1, x2, x3, some (.d (.tup (l.map Sd.d))), x5, x6, x7, x8] S = some (.nx [x0, x1, x2, x3, some (.d (.tup (l.map Sd.d))), x5, y6, y7, y8] S)) ∨
    ((xs.all fun x => !x.2.1 && decide (x.2.2 ∈ l)) = false ∧ forD (gT 3 (gsC (gN 6) (gsC (gN 7) (gsC (gN 8) gsN)))) f__law_shows_b1 (xs.map stepD) [x0, x1, x2, x3, some (.d (.tup (l.map Sd.d))), x5, x6, x7, x8] S = some (.rt (.bl false) S))
  | [], x6, x7, x8, S => .inl ⟨rfl, x6, x7, x8, rfl⟩
  | x :: xs, x6, x7, x8, S => by
    have e := e_sh_b1 w l x0 x1 x2 x3 x5 (some (.d (.bl x.1))) x S
    have ih := e_sh_in l x0 x1 x2 x3 x5 xs (some (.d (.bl x.1))) (some (.d (.bl x.2.1))) (some (.d x.2.2.d)) S
    rw [List.all_cons, List.map_cons, stepD_eq]
    unfold forD
    simp only [gT_app, gsC_app, gN_app, gsN_app, List.length_cons, List.length_nil, List.set_cons_succ, List.set_cons_zero, Option.bind_some, if_true, Nat.zero_add, Nat.reduceAdd, e]
    cases hq : (!x.2.1 && decide (x.2.2 ∈ l)) with
    | true =>
      simp only [if_true, Bool.true_and]
      exact ih
    | false =>
      simp only [Bool.false_eq_true, if_false, Bool.false_and]
      exact .inr ⟨by first | trivial | rfl, by first | trivial | rfl⟩
omit h0 hn in
theorem e_sh_out (l : List Sd) (x3 : Option AU.It) : ∀ (ss : List Sd) (x5 x6 x7 x8 : Option AU.It) (S : Sr), (∀ s ∈ ss, SOk b n s) →
    ((ss.all fun s => (stepsL b c n s).all fun x => !x.2.1 && decide (x.2.2 ∈ l)) = true ∧ ∃ y5 y6 y7 y8, forD (gN 5) f__law_shows_b2 (ss.map Sd.d) [some (.d (bookD b)), some (.d (.str c.s)), some (.d (.int n)), x3, some (.d (.tup (l.map Sd.d))), x5, x6, x7, x8] S = some (.nx [some (.d (bookD b)), some (.d (.str c.s)), some (.d (.int n)), x3, some (.d (.tup (l.map Sd.d))), y5, y6, y7, y8] S)) ∨
    ((ss.all fun s => (stepsL b c n s).all fun x => !x.2.1 && decide (x.2.2 ∈ l)) = false ∧ forD (gN 5) f__law_shows_b2 (ss.map Sd.d) [some (.d (bookD b)), some (.d (.str c.s)), some (.d (.int n)), x3, some (.d (.tup (l.map Sd.d))), x5, x6, x7, x8] S = some (.rt (.bl false) S))
  | [], x5, x6, x7, x8, S, _ => .inl ⟨rfl, x5, x6, x7, x8, rfl⟩
  | s :: ss, x5, x6, x7, x8, S, ok => by
    have e1 := fun S => e_next w c (ok s (by simp)) S
    have eb : ∀ o, forD (gT 3 (gsC (gN 6) (gsC (gN 7) (gsC (gN 8) gsN)))) f__law_shows_b1 ((stepsL b c n s).map stepD) [some (.d (bookD b)), some (.d (.str c.s)), some (.d (.int n)), x3, some (.d (.tup (l.map Sd.d))), some (.d s.d), x6, x7, x8] S = o → f__law_shows_b2 [some (.d (bookD b)), some (.d (.str c.s)), some (.d (.int n)), x3, some (.d (.tup (l.map Sd.d))), some (.d s.d), x6, x7, x8] S = o := fun o h => by
      rw [← h]
      generalize DD.tup (l.map Sd.d) = T at *
      generalize (stepsL b c n s).map stepD = T1 at *
      simp [f__law_shows_b2, e1]
    rw [List.all_cons, List.map_cons]
    unfold forD
    simp only [gN_app, List.set_cons_succ, List.set_cons_zero]
    rcases e_sh_in w l (some (.d (bookD b))) (some (.d (.str c.s))) (some (.d (.int n))) x3 (some (.d s.d)) (stepsL b c n s) x6 x7 x8 S with ⟨g, y6, y7, y8, h⟩ | ⟨g, h⟩
    · rw [g, Bool.true_and, eb _ h]
      exact e_sh_out l x3 ss (some (.d s.d)) y6 y7 y8 S fun t ht => ok t (by simp [ht])
    · rw [g, Bool.false_and, eb _ h]
      exact .inr ⟨rfl, rfl⟩
omit h0 hn w in
theorem sh_eq (l : List Sd) : shB b c n away l = (decide (fst n away ∈ l) && l.all fun s => (stepsL b c n s).all fun x => !x.2.1 && decide (x.2.2 ∈ l)) := by
  have e : ∀ ss : List Sd, (!(ss.any (wetAt b c n)) && ss.all fun s => (stepsL b c n s).all fun x => decide (x.2.2 ∈ l)) = ss.all fun s => (stepsL b c n s).all fun x => !x.2.1 && decide (x.2.2 ∈ l) := fun ss => by
    induction ss with
    | nil => rfl
    | cons s ss ih =>
      rw [List.any_cons, List.all_cons, List.all_cons, ← ih]
      have e2 : ∀ xs : List (Bool × Bool × Sd), (xs.all fun x => !x.2.1 && decide (x.2.2 ∈ l)) = (!(xs.any fun x => x.2.1) && xs.all fun x => decide (x.2.2 ∈ l)) := fun xs => by
        induction xs with
        | nil => rfl
        | cons x xs ih2 =>
          rw [List.any_cons, List.all_cons, List.all_cons, ih2]
          cases x.2.1 <;> cases decide (x.2.2 ∈ l) <;> cases (xs.any fun x => x.2.1) <;> cases (xs.all fun x => decide (x.2.2 ∈ l)) <;> rfl
      rw [e2]
      have ew : wetAt b c n s = (stepsL b c n s).any fun x => x.2.1 := rfl
      rw [ew]
      cases ((stepsL b c n s).any fun x => x.2.1) <;> cases (ss.any (wetAt b c n)) <;> cases ((stepsL b c n s).all fun x => decide (x.2.2 ∈ l)) <;> simp
  unfold shB
  rw [e l]
theorem e_law_shows {l : List Sd} (ok : ∀ s ∈ l, SOk b n s) (S : Sr) :
    m__law_shows [.d (bookD b), .d (.str c.s), .d (.int n), .d (.int away), .d (.tup (l.map Sd.d))] S = some (.ok (.bl (shB b c n away l)), S) := by
  have i1 : ∀ S : Sr, opNotIn (fst n away).d (.tup (l.map Sd.d)) S = some (.ok (.bl (!decide (fst n away ∈ l))), S) := fun S => by
    have := congrFun (inG_sd true (fst n away) l) S
    rw [Bool.true_bne] at this
    exact this
  rw [fst_d] at i1
  rw [sh_eq]
  have lp := e_sh_out w c l (some (.d (.int away))) l none none none none S ok
  generalize (l.all fun s => (stepsL b c n s).all fun x => !x.2.1 && decide (x.2.2 ∈ l)) = r at *
  generalize l.map Sd.d = T at *
  generalize decide (fst n away ∈ l) = q at *
  generalize bookD b = Bd at *
  rcases lp with ⟨rfl, y5, y6, y7, y8, h⟩ | ⟨rfl, h⟩
  · cases q <;> simp [m__law_shows, runB, env0, f__law_shows, i1, h]
  · cases q <;> simp [m__law_shows, runB, env0, f__law_shows, i1, h]
end
end AUL
namespace AUL
open PySem PySem.Spec PyProof.Rows L2 AU SrtO
/-- all stands, ascending -/
structure Whole (b : Bk) (c : Cl) (n away : Int) (l : List Sd) : Prop where
  asc : Asc l
  ok : ∀ s ∈ l, SOk b n s
  few : l.length ≤ 8 * (n.toNat + 1)
  fst : fst n away ∈ l
  cls : ∀ s ∈ l, ∀ x ∈ stepsL b c n s, x.2.2 ∈ l
  wet : l.any (wetAt b c n) = (wetF b c n (R1 b c n away)).isSome
  srt : bSorted [.dct (ksD (R1 b c n away)) (vsD (R1 b c n away))] = AU.ret (.lst (l.map Sd.d))
section
variable {b : Bk} (w : WF b) (c : Cl) {n away : Int} (h0 : 0 ≤ away) (hn : away ≤ n)
include w h0 hn
theorem whole_of : ∃ l : List Sd, Whole b c n away l := by
  obtain ⟨f, more, e⟩ := R1_ok w c h0 hn
  have hne : (R1 b c n away).map (·.1) ≠ [] := by rw [e]; simp
  have hne2 : R1 b c n away ≠ [] := by rw [e]; simp
  obtain ⟨l, e1, p, a⟩ := sort_asc hne f.nd
  have mem : ∀ s, s ∈ l ↔ s ∈ (R1 b c n away).map (·.1) := fun s => p.mem_iff
  have ok : ∀ s ∈ l, SOk b n s := fun s hs => by
    obtain ⟨q, hq, rfl⟩ := List.mem_map.mp ((mem s).mp hs)
    exact (f.ok q hq).1
  refine ⟨l, a, ok, nodup_few w a.nodup ok, (mem _).mpr (by rw [e]; simp), fun s hs x hx => ?_, ?_, ?_⟩
  · exact (mem _).mpr (Rd_cls w c (firsts := [AUL.fst n away]) (by simp) (fun s hs => by rw [List.mem_singleton.mp hs]; exact fst_ok w h0 hn) s ((mem s).mp hs) x hx)
  · cases q : wetF b c n (R1 b c n away) with
    | none =>
      rw [Option.isSome_none, List.any_eq_false]
      intro s hs
      obtain ⟨r, hr, rfl⟩ := List.mem_map.mp ((mem s).mp hs)
      rw [wetF_none q r hr]
      exact Bool.false_ne_true
    | some us =>
      obtain ⟨⟨r, hr, h1, _⟩, _⟩ := wetF_some q
      rw [Option.isSome_some, List.any_eq_true]
      exact ⟨r.1, (mem _).mpr (List.mem_map.mpr ⟨r, hr, rfl⟩), h1⟩
  · rw [bSorted_dct _ hne2, ksD_map, e1]
omit w h0 hn in
theorem Whole.sh {l : List Sd} (x : Whole b c n away l) : shB b c n away l = !(l.any (wetAt b c n)) := by
  unfold shB
  rw [decide_eq_true x.fst, Bool.true_and]
  have : (l.all fun s => (stepsL b c n s).all fun x => decide (x.2.2 ∈ l)) = true := by
    rw [List.all_eq_true]
    intro s hs
    rw [List.all_eq_true]
    exact fun y hy => decide_eq_true (x.cls s hs y hy)
  rw [this, Bool.and_true]
theorem e_paper_for (hg : n ≤ 30) {l : List Sd} (x : Whole b c n away l) (S : Sr) :
    m_paper_for [.d (bookD b), .d (.str c.s), .d (.int n), .d (.int away)] S = some (.ok (if (l.any (wetAt b c n)) = true then .non else .tup (l.map Sd.d)), S) := by
  have g1 := fun S => e_nf w c h0 hn hg S
  have g2 := fun S => e_first_stand n away S
  have g3 := fun S => e_reached1 w c h0 hn (by omega) S
  have g4 : ∀ S : Sr, bSorted [.dct (ksD (R1 b c n away)) (vsD (R1 b c n away))] S = some (.ok (.lst (l.map Sd.d)), S) := fun S => congrFun x.srt S
  have g5 := fun S => e_is_dry w c x.ok (by have := x.few; omega) S
  generalize ksD (R1 b c n away) = ks at *
  generalize vsD (R1 b c n away) = vs at *
  generalize l.map Sd.d = T at *
  generalize (AUL.fst n away).d = D at *
  generalize bookD b = Bd at *
  cases h : l.any (wetAt b c n) with
  | true =>
    rw [h] at g5
    simp [m_paper_for, runB, env0, f_paper_for, g1, g2, g3, g4, g5]
  | false =>
    rw [h] at g5
    simp [m_paper_for, runB, env0, f_paper_for, g1, g2, g3, g4, g5]
end
/-! ### a paper with a stand more, or less -/
theorem asc_less {l : List Sd} (a : Asc l) (i : Nat) : Asc (l.take i ++ l.drop (i + 1)) := by
  refine List.Pairwise.sublist ?_ a
  have e := List.take_append_drop i l
  conv => rhs; rw [← e]
  refine List.Sublist.append_left ?_ _
  rw [← List.drop_drop]
  exact List.drop_sublist 1 _
theorem sd_of (p h m x : Int) (hp : 0 ≤ p ∧ p < 2) (hm : 0 ≤ m) : DD.tup [.int p, .int m, .int h, .bl (decide (x = 1))] = (Sd.mk (decide (p = 1)) m.toNat h (decide (x = 1))).d := by
  unfold Sd.d
  have e1 : pI (decide (p = 1)) = p := by
    by_cases q : p = 1
    · rw [q]; rfl
    · have : p = 0 := by omega
      rw [this]; rfl
  have e2 : ((m.toNat : Nat) : Int) = m := by omega
  simp only [e1, e2]
theorem e_bent {b : Bk} (w : WF b) {n : Int} (h0 : 0 ≤ n) (hn : n ≤ 30) {l : List Sd} (ok : ∀ s ∈ l, SOk b n s) (a : Asc l) (hl : l ≠ []) (S : Sr) :
    ∃ (l' : List Sd) (S' : Sr), m__law_bent [.s, .d (bookD b), .d (.int n), .d (.tup (l.map Sd.d))] S = some (.ok (.tup (l'.map Sd.d)), S') ∧ (∀ s ∈ l', SOk b n s) ∧ Asc l' := by
  have few := nodup_few w a.nodup ok
  have pos : 0 < l.length := List.length_pos_iff.mpr hl
  have eb : bookD b = .tup (b.map moodD) := rfl
  obtain ⟨at_, S1, q1, p1, p1'⟩ := e_draw l.length S (by omega) (by omega)
  obtain ⟨i, rfl⟩ : ∃ i : Nat, at_ = (i : Int) := ⟨at_.toNat, by omega⟩
  obtain ⟨d, S2, q2, p2, p2'⟩ := e_draw 2 S1 (by decide) (by decide)
  by_cases hd : d = 0
  · subst hd
    have c1 : AU.cutD (l.map Sd.d) none (some (i : Int)) = (l.take i).map Sd.d := by rw [cut_to _ _ (by rw [List.length_map]; omega), List.map_take]
    have c2 : AU.cutD (l.map Sd.d) (some ((i : Int) + 1)) none = (l.drop (i + 1)).map Sd.d := by
      have : ((i : Int) + 1) = ((i + 1 : Nat) : Int) := by omega
      rw [this, cut_from _ _ (by rw [List.length_map]; omega), List.map_drop]
    have hz : szOk (min i l.length + (l.length - (i + 1))) = true := decide_eq_true (by omega)
    refine ⟨l.take i ++ l.drop (i + 1), S2, ?_, fun s hs => ok s ?_, asc_less a i⟩
    · have el : ((l.map Sd.d).length : Int) = l.length := by rw [List.length_map]
      rw [List.map_append]
      have hz2 : szOk (((l.take i).map Sd.d).length + ((l.drop (i + 1)).map Sd.d).length) = true := decide_eq_true (by simp; omega)
      generalize ((l.take i).map Sd.d) = A at *
      generalize ((l.drop (i + 1)).map Sd.d) = C at *
      generalize l.map Sd.d = T at *
      rw [← el] at q1
      simp [m__law_bent, runB, env0, f__law_bent, q1, q2, c1, c2, hz2]
    · rcases List.mem_append.mp hs with h | h
      · exact List.mem_of_mem_take h
      · exact List.mem_of_mem_drop h
  · obtain ⟨p, S3, q3, p3, p3'⟩ := e_draw 2 S2 (by decide) (by decide)
    obtain ⟨m, S4, q4, p4, p4'⟩ := e_draw b.length S3 (by rcases w.len with z | z <;> omega) (by rcases w.len with z | z <;> omega)
    obtain ⟨h, S5, q5, p5, p5'⟩ := e_draw (n + 1) S4 (by omega) (by omega)
    obtain ⟨x, S6, q6, p6, p6'⟩ := e_draw 2 S5 (by decide) (by decide)
    have es := sd_of p h m x ⟨p3, p3'⟩ p4
    generalize hM : Sd.mk (decide (p = 1)) m.toNat h (decide (x = 1)) = M at es
    have oM : SOk b n M := by
      rw [← hM]
      exact ⟨by show m.toNat < b.length; omega, p5, by show h ≤ n; omega⟩
    obtain ⟨l', e1, sub, a'⟩ := srtSet_asc (l := l ++ [M]) (by simp)
    refine ⟨l', S6, ?_, fun s hs => ?_, a'⟩
    · have el : ((l.map Sd.d).length : Int) = l.length := by rw [List.length_map]
      have hz : szOk ((l.map Sd.d).length + 1) = true := decide_eq_true (by rw [List.length_map]; omega)
      have ok1 : setOk ((l ++ [M]).map Sd.d) = true := setOk_sds (by rw [List.length_append]; simp; omega)
      have ok2 : srtOk ((l ++ [M]).map Sd.d) = true := srt_sds (by simp)
      have ea : (l ++ [M]).map Sd.d = l.map Sd.d ++ [M.d] := by rw [List.map_append]; rfl
      rw [ea] at ok1 ok2 e1
      rw [← el] at q1
      have eB : ((b.map moodD).length : Int) = b.length := by rw [List.length_map]
      rw [eb]
      rw [← eB] at q4
      generalize l'.map Sd.d = T' at *
      generalize l.map Sd.d = T at *
      generalize b.map moodD = Bd at *
      simp [m__law_bent, runB, env0, f__law_bent, q1, q2, hd, q3, q4, q5, q6, es, hz, ok1, ok2, e1]
    · rcases List.mem_append.mp (sub s hs) with h | h
      · exact ok s h
      · rw [List.mem_singleton.mp h]
        exact oM
end AUL
namespace AUL
open PySem PySem.Spec PyProof.Rows L2 AU SrtO
@[simp] theorem isnot_non : opIsNot .non .non = AU.ret (.bl false) := rfl
@[simp] theorem isnot_tup (xs : List DD) : opIsNot (.tup xs) .non = AU.ret (.bl true) := rfl
section
variable {b : Bk} (w : WF b) (c : Cl) {n away : Int} (h0 : 0 ≤ away) (hn : away ≤ n) (hg : n ≤ 30)
include w h0 hn
theorem e_law_wet1 (hg : n ≤ 30) (S : Sr) : m__law_wet [.d (bookD b), .d (.str c.s), .d (.int n), .d (.lst [(fst n away).d])] S = some (.ok (bestD (wetF b c n (R1 b c n away))), S) :=
  e_law_wet w c (by omega) (firsts := [fst n away]) (by simp) (fun s hs => by rw [List.mem_singleton.mp hs]; exact fst_ok w h0 hn) S
/-- one value -/
theorem e_r5_b1 (hg : n ≤ 30) {l : List Sd} (ok : ∀ s ∈ l, SOk b n s) (a : Asc l) (x0 x5 x6 x7 x9 x10 : Option AU.It) (S : Sr) :
    f__law_right_b1 [x0, some (.d (bookD b)), some (.d (.str c.s)), some (.d (.int n)), some (.d (.int away)), x5, x6, x7, some (.d (.tup (l.map Sd.d))), x9, x10] S = some (.nx [x0, some (.d (bookD b)), some (.d (.str c.s)), some (.d (.int n)), some (.d (.int away)), x5, x6, x7, some (.d (.tup (l.map Sd.d))), x9, x10] S) := by
  have few := nodup_few w a.nodup ok
  have g1 := fun S => e_is_paper w c h0 hn hg ok a (by omega) S
  have g2 := fun S => e_law_shows w c h0 hn ok S
  generalize shB b c n away l = r at *
  generalize l.map Sd.d = T at *
  generalize bookD b = Bd at *
  cases r <;> simp [f__law_right_b1, g1, g2]
theorem e_r5_b2 (hg : n ≤ 30) {l : List Sd} (ok : ∀ s ∈ l, SOk b n s) (a : Asc l) (hl : l ≠ []) (x5 x6 x8 x9 x10 : Option AU.It) (S : Sr) :
    ∃ (d10 : DD) (S' : Sr), f__law_right_b2 [some .s, some (.d (bookD b)), some (.d (.str c.s)), some (.d (.int n)), some (.d (.int away)), x5, x6, some (.d (.tup (l.map Sd.d))), x8, x9, x10] S = some (.nx [some .s, some (.d (bookD b)), some (.d (.str c.s)), some (.d (.int n)), some (.d (.int away)), x5, x6, some (.d (.tup (l.map Sd.d))), x8, x9, some (.d d10)] S') := by
  obtain ⟨l', S', e, ok', a'⟩ := e_bent w (by omega) hg ok a hl S
  have few := nodup_few w a'.nodup ok'
  have g1 := fun S => e_is_paper w c h0 hn hg ok' a' (by omega) S
  have g2 := fun S => e_law_shows w c h0 hn ok' S
  refine ⟨.tup (l'.map Sd.d), S', ?_⟩
  generalize shB b c n away l' = r at *
  generalize l'.map Sd.d = T' at *
  generalize l.map Sd.d = T at *
  generalize bookD b = Bd at *
  cases r <;> simp [f__law_right_b2, e, g1, g2]
theorem e_right5 (hg : n ≤ 30) (S : Sr) : ∃ S', m__law_right [.s, .d (bookD b), .d (.str c.s), .d (.int n), .d (.int away)] S = some (.ok (.bl true), S') := by
  obtain ⟨l, x⟩ := whole_of w c h0 hn
  have few := x.few
  have hl : l ≠ [] := fun e => by have := x.fst; rw [e] at this; cases this
  have g1 := fun S => e_paper_for w c h0 hn hg x S
  have g2 := fun S => e_law_wet1 w c h0 hn hg S
  have g3 := fun S => e_law_reached1 w c h0 hn (by omega) S
  have g4 : ∀ S : Sr, bSorted [.dct (ksD (R1 b c n away)) (vsD (R1 b c n away))] S = some (.ok (.lst (l.map Sd.d)), S) := fun S => congrFun x.srt S
  have g5 := fun S => e_law_shows w c h0 hn x.ok S
  rw [x.sh, x.wet] at g5
  simp only [x.wet] at g1
  have b1 := fun x0 x5 x6 x7 x9 x10 S => e_r5_b1 w c h0 hn hg x.ok x.asc x0 x5 x6 x7 x9 x10 S
  have b0 := fun x0 x5 x6 x7 x9 x10 S => e_r5_b1 w c h0 hn hg (l := []) (fun s hs => by cases hs) List.Pairwise.nil x0 x5 x6 x7 x9 x10 S
  have b0 : ∀ (x0 x5 x6 x7 x9 x10 : Option AU.It) (S : Sr), f__law_right_b1 [x0, some (.d (bookD b)), some (.d (.str c.s)), some (.d (.int n)), some (.d (.int away)), x5, x6, x7, some (.d (.tup [])), x9, x10] S = some (.nx [x0, some (.d (bookD b)), some (.d (.str c.s)), some (.d (.int n)), some (.d (.int away)), x5, x6, x7, some (.d (.tup [])), x9, x10] S) := b0
  have b2 := fun x5 x6 x8 x9 x10 S => e_r5_b2 w c h0 hn hg x.ok x.asc hl x5 x6 x8 x9 x10 S
  have r3 : rngD 0 3 = [.int 0, .int 1, .int 2] := rfl
  rw [fst_d] at g2 g3
  generalize wetF b c n (R1 b c n away) = best at *
  generalize ksD (R1 b c n away) = ks at *
  generalize vsD (R1 b c n away) = vs at *
  generalize l.map Sd.d = T at *
  generalize bookD b = Bd at *
  cases best with
  | none =>
    have g1 : ∀ S : Sr, m_paper_for [.d Bd, .d (.str c.s), .d (.int n), .d (.int away)] S = some (.ok (.tup T), S) := g1
    have g2 : ∀ S : Sr, m__law_wet [.d Bd, .d (.str c.s), .d (.int n), .d (.lst [.tup [.int 0, .int 0, .int (n - away), .bl false]])] S = some (.ok .non, S) := g2
    have g5 : ∀ S : Sr, m__law_shows [.d Bd, .d (.str c.s), .d (.int n), .d (.int away), .d (.tup T)] S = some (.ok (.bl true), S) := g5
    obtain ⟨d1, S1, q1⟩ := b2 (some (.d (.tup T))) (some (.d .non)) (some (.d (.tup T))) (some (.d (.int 0))) none S
    obtain ⟨d2, S2, q2⟩ := b2 (some (.d (.tup T))) (some (.d .non)) (some (.d (.tup T))) (some (.d (.int 1))) (some (.d d1)) S1
    obtain ⟨d3, S3, q3⟩ := b2 (some (.d (.tup T))) (some (.d .non)) (some (.d (.tup T))) (some (.d (.int 2))) (some (.d d2)) S2
    exact ⟨S3, by simp [m__law_right, runB, env0, f__law_right, g1, g2, g3, g4, g5, forD, b1, b0, r3, q1, q2, q3]⟩
  | some ws =>
    have ev : bestD (some ws) = .tup (ws.map DD.bl) := rfl
    have g1 : ∀ S : Sr, m_paper_for [.d Bd, .d (.str c.s), .d (.int n), .d (.int away)] S = some (.ok .non, S) := g1
    have g2 : ∀ S : Sr, m__law_wet [.d Bd, .d (.str c.s), .d (.int n), .d (.lst [.tup [.int 0, .int 0, .int (n - away), .bl false]])] S = some (.ok (.tup (ws.map DD.bl)), S) := g2
    obtain ⟨d1, S1, q1⟩ := b2 (some (.d .non)) (some (.d (.tup (ws.map DD.bl)))) (some (.d (.tup []))) (some (.d (.int 0))) none S
    obtain ⟨d2, S2, q2⟩ := b2 (some (.d .non)) (some (.d (.tup (ws.map DD.bl)))) (some (.d (.tup []))) (some (.d (.int 1))) (some (.d d1)) S1
    obtain ⟨d3, S3, q3⟩ := b2 (some (.d .non)) (some (.d (.tup (ws.map DD.bl)))) (some (.d (.tup []))) (some (.d (.int 2))) (some (.d d2)) S2
    exact ⟨S3, by simp [m__law_right, runB, env0, f__law_right, g1, g2, g3, g4, forD, b1, b0, r3, q1, q2, q3]⟩
end
end AUL
namespace AUL
open PySem PySem.Spec PyProof.Rows L2 AU
/-! law -/
def N_law : List Str := ["_law_script", "_law_plain", "_law_all_so", "_law_k", "_law_days", "_law_source_here", "_law_climate", "_law_good", "_law_odds", "_law_odd", "_law_n", "_law_book_here"]
theorem sc_law : FnScope N_law ["_law_script"] (defScope (top 49)) := ⟨rfl, rfl, rfl, by decide +kernel, rfl, by decide +kernel, by decide +kernel⟩
def f_law_b1 : SF := (sIf (tNotD (tV (eCall m__law_right (iSrc 5 (iCons (eVar 11) (iCons (eVar 6) (iCons (eVar 10) (iCons (eCall m__law_draw (iSrc 5 (iCons (eOp opAdd (eVar 10) (eC (.int 1))) iNil))) iNil))))))))
  (sRet (eC (.bl false)))
  sNil)
def f_law_b2 : SF := (sSeq (sAsg (eCall m__law_choice (iSrc 5 (iCons (eLst (aCons (eC (.int 0)) (aCons (eC (.int 1)) (aCons (eC (.int 2)) (aCons (eCall m__law_draw (iSrc 5 (iCons (eC (.int 16)) iNil))) aNil))))) iNil))) (gN 10))
  (sFor (jSeq (eLst (aCons (eCall m__law_book (iSrc 5 iNil)) (aCons (eCall m__law_choice (iSrc 5 (iCons (eLst (aCons (eVar 1) (aCons (eVar 2) aNil))) iNil))) aNil)))) (gN 11)
  (f_law_b1)))
def f_law_b3 : SF := (sIf (tV (eOp opNe (eWord nx_ cl_word (eCall m_is_paper (iCons (eVar 2) (iCons (eC (.str "any")) (iCons (eC (.int 1)) (iCons (eC (.int 0)) (iCons (eVar 9) iNil))))))) (eC (.str "paper"))))
  (sRet (eC (.bl false)))
  sNil)
def f_law_b4 : SF := (sSeq (sSrcNew 5 (nCall m__law_source (iSrc 0 (iCons (eVar 3) iNil))))
  (sSeq (sFor (jSeq (eLst (aCons (eC (.str "any")) (aCons (eC (.str "days")) (aCons (eC (.str "rare")) aNil))))) (gN 6)
  (f_law_b2))
  (sSeq (sAsg (eTup (aCons (eTup (aCons (eC (.int 0)) (aCons (eC (.int 0)) (aCons (eC (.int 1)) (aCons (eC (.bl false)) aNil))))) (aCons (eTup (aCons (eC (.int 1)) (aCons (eC (.int 0)) (aCons (eC (.int 1)) (aCons (eC (.bl false)) aNil))))) aNil))) (gN 7))
  (sSeq (sAsg (eLst (aCons (eC .non) (aCons (eB bList (aCons (eVar 7) aNil)) (aCons (eRevT (eVar 7)) (aCons (eOp opAdd (eVar 7) (eSl (eVar 7) (oSome (eC (.int 1))) oNo)) (aCons (eTup (aCons (eTup (aCons (eC (.int 0)) (aCons (eC (.int 0)) (aCons (eC (.int 1)) aNil)))) aNil)) (aCons (eTup (aCons (eTup (aCons (eC (.int 2)) (aCons (eC (.int 0)) (aCons (eC (.int 1)) (aCons (eC (.bl false)) aNil))))) aNil)) (aCons (eTup (aCons (eTup (aCons (eC (.int 0)) (aCons (eC (.int 1)) (aCons (eC (.int 1)) (aCons (eC (.bl false)) aNil))))) aNil)) aNil)))))))) (gN 8))
  (sSeq (sAsg (eOp opAdd (eVar 8) (eLst (aCons (eTup (aCons (eTup (aCons (eC (.int 0)) (aCons (eC (.int 0)) (aCons (eC (.int 2)) (aCons (eC (.bl false)) aNil))))) aNil)) (aCons (eTup (aCons (eTup (aCons (eC (.int 0)) (aCons (eC (.int 0)) (aCons (eNeg (eC (.int 1))) (aCons (eC (.bl false)) aNil))))) aNil)) (aCons (eTup (aCons (eTup (aCons (eC (.int 0)) (aCons (eC (.int 0)) (aCons (eC (.int 1)) (aCons (eC (.int 0)) aNil))))) aNil)) (aCons (eTup (aCons (eTup (aCons (eC (.bl true)) (aCons (eC (.int 0)) (aCons (eC (.int 1)) (aCons (eC (.bl false)) aNil))))) aNil)) (aCons (eTup (aCons (eC .non) aNil)) aNil))))))) (gN 8))
  (sSeq (sFor (jSeq (eVar 8)) (gN 9)
  (f_law_b3))
  (sSeq (sIf (tV (eOp opNe (eWord nx_ cl_word (eCall m_is_paper (iCons (eVar 2) (iCons (eC (.str "any")) (iCons (eC (.int 31)) (iCons (eC (.int 0)) (iCons (eC .non) iNil))))))) (eC (.str "number"))))
  (sRet (eC (.bl false)))
  sNil)
  (sIf (tV (eOp opNe (eWord nx_ cl_word (eCall m_paper_for (iCons (eVar 2) (iCons (eC (.str "any")) (iCons (eC (.int 3)) (iCons (eC (.int 4)) iNil)))))) (eC (.str "number"))))
  (sRet (eC (.bl false)))
  sNil))))))))
def f_law : SF := (sSeq (sAsg (eTup (aCons (eOp opAdd (eOp opMul (eTup (aCons (eTup (aCons (eC (.str "leave")) (aCons (eC (.int 0)) aNil))) aNil)) (eC (.int 4))) (eOp opMul (eTup (aCons (eTup (aCons (eC (.str "take")) (aCons (eC (.int 0)) aNil))) aNil)) (eC (.int 2)))) aNil)) (gN 1))
  (sSeq (sAsg (eTup (aCons (eOp opMul (eTup (aCons (eTup (aCons (eC (.str "leave")) (aCons (eC (.int 0)) aNil))) (aCons (eTup (aCons (eC (.str "take")) (aCons (eC (.int 0)) aNil))) (aCons (eTup (aCons (eC (.str "take")) (aCons (eC (.int 0)) aNil))) aNil)))) (eC (.int 2))) aNil)) (gN 2))
  (sSeq (sFor (jRng1 (aCons (eOp opAdd (eC (.int 1)) (eB (b2I minI) (aCons (eScLen 0) (aCons (eC (.int 8)) aNil)))) aNil)) (gN 3)
  (f_law_b4))
  (sSeq (sIf (tOrD (tNotD (tV (eCall m_is_paper (iCons (eVar 2) (iCons (eC (.str "any")) (iCons (eC (.int 1)) (iCons (eC (.int 0)) (iCons (eVar 7) iNil)))))))) (tV (eCall m_is_paper (iCons (eVar 2) (iCons (eC (.str "any")) (iCons (eC (.int 1)) (iCons (eC (.int 0)) (iCons (eSl (eVar 7) oNo (oSome (eC (.int 1)))) iNil))))))))
  (sRet (eC (.bl false)))
  sNil)
  (sSeq (sIf (tV (eCall m_is_paper (iCons (eVar 2) (iCons (eC (.str "any")) (iCons (eC (.int 1)) (iCons (eC (.int 0)) (iCons (eTup aNil) iNil)))))))
  (sRet (eC (.bl false)))
  sNil)
  (sSeq (sIf (tOrD (tV (eCall m_is_paper (iCons (eVar 2) (iCons (eC (.str "any")) (iCons (eC (.int 1)) (iCons (eC (.int 1)) (iCons (eVar 7) iNil))))))) (tV (eOp opIsNot (eCall m_paper_for (iCons (eVar 1) (iCons (eC (.str "any")) (iCons (eC (.int 4)) (iCons (eC (.int 0)) iNil))))) (eC .non))))
  (sRet (eC (.bl false)))
  sNil)
  (sSeq (sAsg (eTup (aCons (eTup (aCons (eC (.int 0)) (aCons (eC (.int 0)) (aCons (eC (.int 1)) (aCons (eC (.bl false)) aNil))))) (aCons (eTup (aCons (eC (.int 1)) (aCons (eC (.int 0)) (aCons (eC (.int 0)) (aCons (eC (.bl false)) aNil))))) (aCons (eTup (aCons (eC (.int 1)) (aCons (eC (.int 0)) (aCons (eC (.int 1)) (aCons (eC (.bl true)) aNil))))) aNil)))) (gN 4))
  (sSeq (sIf (tOrD (tNotD (tV (eCall m_is_paper (iCons (eVar 1) (iCons (eC (.str "days")) (iCons (eC (.int 1)) (iCons (eC (.int 0)) (iCons (eVar 4) iNil)))))))) (tV (eCall m_is_paper (iCons (eVar 1) (iCons (eC (.str "days")) (iCons (eC (.int 1)) (iCons (eC (.int 0)) (iCons (eSl (eVar 4) oNo (oSome (eC (.int 2)))) iNil))))))))
  (sRet (eC (.bl false)))
  sNil)
  (sRet (eOp opIsB (eCall m_is_paper (iCons (eVar 1) (iCons (eC (.str "any")) (iCons (eC (.int 1)) (iCons (eC (.int 0)) (iCons (eVar 4) iNil)))))) (eC (.bl false))))))))))))
theorem d_law {P : Program} {w : World} {K : PySem.W.Frag} {mg : Str → Option Value} {base : Heap} {cls : Nat → Value} (T : Txt K mg cls) (h__law_book : FnC P w K mg base cls "_law_book" 1 3 m__law_book) (h__law_choice : FnC P w K mg base cls "_law_choice" 2 2 m__law_choice) (h__law_draw : FnC P w K mg base cls "_law_draw" 2 1 m__law_draw) (h__law_right : FnC P w K mg base cls "_law_right" 5 9 m__law_right) (h__law_source : FnN P w K mg base cls "_law_source" 2 1 m__law_source) (h_is_paper : FnC P w K mg base cls "is_paper" 5 8 m_is_paper) (h_paper_for : FnC P w K mg base cls "paper_for" 4 8 m_paper_for) {gW : Addr} {fdW : FuncData} (FW : Fun K "_law_word" "_law_word" (top 48) gW fdW) (hmW : mg "_law_word" = some (.ref gW)) (hbW : L2.Binds K fdW ["_law_call"] []) {c Pt : Addr} (TB : LamX.TabB base mg c Pt) {f : Addr} (A : Around) (outer : List PySem.Env) (s : Shared) (H : Hp) (E : XK) (hr : Room 11 (A.deeper (envOfC "law" (defScope (top 49)) s.heap.objs.size f (.ref c)))) :
    DSs (cxOf (L2.CX P w) P w K mg base N_law "law" (defScope (top 49)) f (.ref c) A outer s H E) (BL K [(Pt, lamQ)] cls) (WD E) (defBody (top 49)) (f_law ) := by
  exact (dss_cons (ds_asg (de_tup (da_cons (de_add rfl (de_mul rfl (de_tup (da_cons (de_tup (da_cons de_str (da_cons de_int da_nil))) da_nil)) de_int) (de_mul rfl (de_tup (da_cons (de_tup (da_cons de_str (da_cons de_int da_nil))) da_nil)) de_int)) da_nil)) (dg_name 1 sc_law.nd))
  (dss_cons (ds_asg (de_tup (da_cons (de_mul rfl (de_tup (da_cons (de_tup (da_cons de_str (da_cons de_int da_nil))) (da_cons (de_tup (da_cons de_str (da_cons de_int da_nil))) (da_cons (de_tup (da_cons de_str (da_cons de_int da_nil))) da_nil)))) de_int) da_nil)) (dg_name 2 sc_law.nd))
  (dss_cons (ds_for rfl (passes_of rfl) rfl (dj_rng1 T.f_range (da_cons (de_add rfl de_int (de_mn rfl T.f_min (da_cons (de_scLen 0 rfl T.f_len) (da_cons de_int da_nil)))) da_nil)) (dg_name 3 sc_law.nd)
  (dss_cons (ds_srcNew 5 rfl sc_law.nd (dn_call h__law_source hr (by decide) rfl (takes_of rfl rfl rfl rfl) (di_src 0 (di_cons (de_var 3) di_nil))))
  (dss_cons (ds_for rfl (passes_of rfl) rfl (dj_seq rfl (de_lst (da_cons de_str (da_cons de_str (da_cons de_str da_nil))))) (dg_name 6 sc_law.nd)
  (dss_cons (ds_asg (de_call h__law_choice hr (by decide) rfl (takes_of rfl rfl rfl rfl) (di_src 5 (di_cons (de_lst (da_cons de_int (da_cons de_int (da_cons de_int (da_cons (de_call h__law_draw hr (by decide) rfl (takes_of rfl rfl rfl rfl) (di_src 5 (di_cons de_int di_nil))) da_nil))))) di_nil))) (dg_name 10 sc_law.nd))
  (dss_one (ds_for rfl (passes_of rfl) rfl (dj_seq rfl (de_lst (da_cons (de_call h__law_book hr (by decide) rfl (takes_of rfl rfl rfl rfl) (di_src 5 di_nil)) (da_cons (de_call h__law_choice hr (by decide) rfl (takes_of rfl rfl rfl rfl) (di_src 5 (di_cons (de_lst (da_cons (de_var 1) (da_cons (de_var 2) da_nil))) di_nil))) da_nil)))) (dg_name 11 sc_law.nd)
  (dss_one (ds_if (dt_not (dt_val (de_call h__law_right hr (by decide) rfl (takes_of rfl rfl rfl rfl) (di_src 5 (di_cons (de_var 11) (di_cons (de_var 6) (di_cons (de_var 10) (di_cons (de_call h__law_draw hr (by decide) rfl (takes_of rfl rfl rfl rfl) (di_src 5 (di_cons (de_add rfl (de_var 10) de_int) di_nil))) di_nil))))))))
  (dss_one (ds_ret de_bl))
  dss_nil))))))
  (dss_cons (ds_asg (de_tup (da_cons (de_tup (da_cons de_int (da_cons de_int (da_cons de_int (da_cons de_bl da_nil))))) (da_cons (de_tup (da_cons de_int (da_cons de_int (da_cons de_int (da_cons de_bl da_nil))))) da_nil))) (dg_name 7 sc_law.nd))
  (dss_cons (ds_asg (de_lst (da_cons de_non (da_cons (de_list rfl rfl T.f_list (da_cons (de_var 7) da_nil)) (da_cons (de_revT rfl (de_var 7)) (da_cons (de_add rfl (de_var 7) (de_slice rfl (de_var 7) (do_some de_int) do_no)) (da_cons (de_tup (da_cons (de_tup (da_cons de_int (da_cons de_int (da_cons de_int da_nil)))) da_nil)) (da_cons (de_tup (da_cons (de_tup (da_cons de_int (da_cons de_int (da_cons de_int (da_cons de_bl da_nil))))) da_nil)) (da_cons (de_tup (da_cons (de_tup (da_cons de_int (da_cons de_int (da_cons de_int (da_cons de_bl da_nil))))) da_nil)) da_nil)))))))) (dg_name 8 sc_law.nd))
  (dss_cons (ds_asg (de_add rfl (de_var 8) (de_lst (da_cons (de_tup (da_cons (de_tup (da_cons de_int (da_cons de_int (da_cons de_int (da_cons de_bl da_nil))))) da_nil)) (da_cons (de_tup (da_cons (de_tup (da_cons de_int (da_cons de_int (da_cons (de_ng de_int) (da_cons de_bl da_nil))))) da_nil)) (da_cons (de_tup (da_cons (de_tup (da_cons de_int (da_cons de_int (da_cons de_int (da_cons de_int da_nil))))) da_nil)) (da_cons (de_tup (da_cons (de_tup (da_cons de_bl (da_cons de_int (da_cons de_int (da_cons de_bl da_nil))))) da_nil)) (da_cons (de_tup (da_cons de_non da_nil)) da_nil))))))) (dg_name 8 sc_law.nd))
  (dss_cons (ds_for rfl (passes_of rfl) rfl (dj_seq rfl (de_var 8)) (dg_name 9 sc_law.nd)
  (dss_one (ds_if (dt_ne rfl hr (de_wordF FW hmW hbW sc__law_word rfl (.inl rfl) (fun _ => word_gives T.exm (.cons (by decide) T.mg_InvalidNumber rfl (by decide) (.cons (by decide) T.mg_InvalidPaper rfl (by decide) (.nil))) rfl sc__law_word.nd rfl (by decide) (by decide)) TB rfl rfl hr (fun _ _ _ _ _ _ _ hr' => (de_call h_is_paper hr' (by decide) rfl takes_lam (di_cons (de_var 2) (di_cons de_str (di_cons de_int (di_cons de_int (di_cons (de_var 9) di_nil))))))) (LamX.lamS_by (by kernel_rfl))) de_str)
  (dss_one (ds_ret de_bl))
  dss_nil)))
  (dss_cons (ds_if (dt_ne rfl hr (de_wordF FW hmW hbW sc__law_word rfl (.inl rfl) (fun _ => word_gives T.exm (.cons (by decide) T.mg_InvalidNumber rfl (by decide) (.cons (by decide) T.mg_InvalidPaper rfl (by decide) (.nil))) rfl sc__law_word.nd rfl (by decide) (by decide)) TB rfl rfl hr (fun _ _ _ _ _ _ _ hr' => (de_call h_is_paper hr' (by decide) rfl takes_lam (di_cons (de_var 2) (di_cons de_str (di_cons de_int (di_cons de_int (di_cons de_non di_nil))))))) (LamX.lamS_by (by kernel_rfl))) de_str)
  (dss_one (ds_ret de_bl))
  dss_nil)
  (dss_one (ds_if (dt_ne rfl hr (de_wordF FW hmW hbW sc__law_word rfl (.inl rfl) (fun _ => word_gives T.exm (.cons (by decide) T.mg_InvalidNumber rfl (by decide) (.cons (by decide) T.mg_InvalidPaper rfl (by decide) (.nil))) rfl sc__law_word.nd rfl (by decide) (by decide)) TB rfl rfl hr (fun _ _ _ _ _ _ _ hr' => (de_call h_paper_for hr' (by decide) rfl takes_lam (di_cons (de_var 2) (di_cons de_str (di_cons de_int (di_cons de_int di_nil)))))) (LamX.lamS_by (by kernel_rfl))) de_str)
  (dss_one (ds_ret de_bl))
  dss_nil))))))))))
  (dss_cons (ds_if (dw_pt (dw_or (dt_not (dt_val (de_call h_is_paper hr (by decide) rfl (takes_of rfl rfl rfl rfl) (di_cons (de_var 2) (di_cons de_str (di_cons de_int (di_cons de_int (di_cons (de_var 7) di_nil)))))))) (dw_or1 (dt_val (de_call h_is_paper hr (by decide) rfl (takes_of rfl rfl rfl rfl) (di_cons (de_var 2) (di_cons de_str (di_cons de_int (di_cons de_int (di_cons (de_slice rfl (de_var 7) do_no (do_some de_int)) di_nil))))))))))
  (dss_one (ds_ret de_bl))
  dss_nil)
  (dss_cons (ds_if (dt_val (de_call h_is_paper hr (by decide) rfl (takes_of rfl rfl rfl rfl) (di_cons (de_var 2) (di_cons de_str (di_cons de_int (di_cons de_int (di_cons (de_tup da_nil) di_nil)))))))
  (dss_one (ds_ret de_bl))
  dss_nil)
  (dss_cons (ds_if (dw_pt (dw_or (dt_val (de_call h_is_paper hr (by decide) rfl (takes_of rfl rfl rfl rfl) (di_cons (de_var 2) (di_cons de_str (di_cons de_int (di_cons de_int (di_cons (de_var 7) di_nil))))))) (dw_or1 (dt_notN (de_call h_paper_for hr (by decide) rfl (takes_of rfl rfl rfl rfl) (di_cons (de_var 1) (di_cons de_str (di_cons de_int (di_cons de_int di_nil))))) de_non))))
  (dss_one (ds_ret de_bl))
  dss_nil)
  (dss_cons (ds_asg (de_tup (da_cons (de_tup (da_cons de_int (da_cons de_int (da_cons de_int (da_cons de_bl da_nil))))) (da_cons (de_tup (da_cons de_int (da_cons de_int (da_cons de_int (da_cons de_bl da_nil))))) (da_cons (de_tup (da_cons de_int (da_cons de_int (da_cons de_int (da_cons de_bl da_nil))))) da_nil)))) (dg_name 4 sc_law.nd))
  (dss_cons (ds_if (dw_pt (dw_or (dt_not (dt_val (de_call h_is_paper hr (by decide) rfl (takes_of rfl rfl rfl rfl) (di_cons (de_var 1) (di_cons de_str (di_cons de_int (di_cons de_int (di_cons (de_var 4) di_nil)))))))) (dw_or1 (dt_val (de_call h_is_paper hr (by decide) rfl (takes_of rfl rfl rfl rfl) (di_cons (de_var 1) (di_cons de_str (di_cons de_int (di_cons de_int (di_cons (de_slice rfl (de_var 4) do_no (do_some de_int)) di_nil))))))))))
  (dss_one (ds_ret de_bl))
  dss_nil)
  (dss_one (ds_ret (de_isB (de_call h_is_paper hr (by decide) rfl (takes_of rfl rfl rfl rfl) (di_cons (de_var 1) (di_cons de_str (di_cons de_int (di_cons de_int (di_cons (de_var 4) di_nil)))))) de_bl)))))))))))
end AUL
set_option maxHeartbeats 0
namespace AUL
open PySem PySem.Spec PyProof.Rows L2 AU
def bPl : Bk := [[(false, 0), (false, 0), (false, 0), (false, 0), (true, 0), (true, 0)]]
def bAl : Bk := [[(false, 0), (true, 0), (true, 0), (false, 0), (true, 0), (true, 0)]]
def wfB5 (b : Bk) : Bool := (decide (b.length = 1) || decide (b.length = 2)) && b.all fun m => decide (m.length = 6) && (List.range 6).all fun i => match m[i]? with
  | some r => (decide (i % 3 ≠ 0) || !r.1) && decide (r.2 < b.length)
  | none => true
theorem wf_of5 {b : Bk} (h : wfB5 b = true) : WF b := by
  unfold wfB5 at h
  simp only [Bool.and_eq_true, Bool.or_eq_true, decide_eq_true_eq, List.all_eq_true] at h
  obtain ⟨h1, h2⟩ := h
  refine ⟨h1, fun m hm => (h2 m hm).1, fun m hm i r hr => ?_⟩
  have hi : i < 6 := by
    have h6 := (h2 m hm).1
    have := (List.getElem?_eq_some_iff.mp hr).1
    omega
  have h3 := (h2 m hm).2 i (List.mem_range.mpr hi)
  rw [hr] at h3
  simp only [Bool.and_eq_true, Bool.or_eq_true, decide_eq_true_eq, Bool.not_eq_true'] at h3
  exact ⟨fun z => h3.1.resolve_left fun q => q z, h3.2⟩
theorem w_pl : WF bPl := wf_of5 (by decide +kernel)
theorem w_al : WF bAl := wf_of5 (by decide +kernel)
def stQ (p m h : Int) (l : Bool) : DD := .tup [.int p, .int m, .int h, .bl l]
def goodD : DD := .tup [stQ 0 0 1 false, stQ 1 0 1 false]
def daysD : DD := .tup [stQ 0 0 1 false, stQ 1 0 0 false, stQ 1 0 1 true]
def odds1 : List DD := [.non, .lst [stQ 0 0 1 false, stQ 1 0 1 false], .tup [stQ 1 0 1 false, stQ 0 0 1 false], .tup [stQ 0 0 1 false, stQ 1 0 1 false, stQ 1 0 1 false], .tup [.tup [.int 0, .int 0, .int 1]], .tup [stQ 2 0 1 false], .tup [stQ 0 1 1 false]]
def odds2 : List DD := [.tup [stQ 0 0 2 false], .tup [stQ 0 0 (-1) false], .tup [.tup [.int 0, .int 0, .int 1, .int 0]], .tup [.tup [.bl true, .int 0, .int 1, .bl false]], .tup [.non]]
def oddsD : List DD := odds1 ++ odds2
def lawT0 : SF := (sAsg (eTup (aCons (eOp opAdd (eOp opMul (eTup (aCons (eTup (aCons (eC (.str "leave")) (aCons (eC (.int 0)) aNil))) aNil)) (eC (.int 4))) (eOp opMul (eTup (aCons (eTup (aCons (eC (.str "take")) (aCons (eC (.int 0)) aNil))) aNil)) (eC (.int 2)))) aNil)) (gN 1))
def lawT1 : SF := (sAsg (eTup (aCons (eOp opMul (eTup (aCons (eTup (aCons (eC (.str "leave")) (aCons (eC (.int 0)) aNil))) (aCons (eTup (aCons (eC (.str "take")) (aCons (eC (.int 0)) aNil))) (aCons (eTup (aCons (eC (.str "take")) (aCons (eC (.int 0)) aNil))) aNil)))) (eC (.int 2))) aNil)) (gN 2))
def lawT2 : SF := (sFor (jRng1 (aCons (eOp opAdd (eC (.int 1)) (eB (b2I minI) (aCons (eScLen 0) (aCons (eC (.int 8)) aNil)))) aNil)) (gN 3)
  (f_law_b4))
def lawT3 : SF := (sIf (tOrD (tNotD (tV (eCall m_is_paper (iCons (eVar 2) (iCons (eC (.str "any")) (iCons (eC (.int 1)) (iCons (eC (.int 0)) (iCons (eVar 7) iNil)))))))) (tV (eCall m_is_paper (iCons (eVar 2) (iCons (eC (.str "any")) (iCons (eC (.int 1)) (iCons (eC (.int 0)) (iCons (eSl (eVar 7) oNo (oSome (eC (.int 1)))) iNil))))))))
  (sRet (eC (.bl false)))
  sNil)
def lawT4 : SF := (sIf (tV (eCall m_is_paper (iCons (eVar 2) (iCons (eC (.str "any")) (iCons (eC (.int 1)) (iCons (eC (.int 0)) (iCons (eTup aNil) iNil)))))))
  (sRet (eC (.bl false)))
  sNil)
def lawT5 : SF := (sIf (tOrD (tV (eCall m_is_paper (iCons (eVar 2) (iCons (eC (.str "any")) (iCons (eC (.int 1)) (iCons (eC (.int 1)) (iCons (eVar 7) iNil))))))) (tV (eOp opIsNot (eCall m_paper_for (iCons (eVar 1) (iCons (eC (.str "any")) (iCons (eC (.int 4)) (iCons (eC (.int 0)) iNil))))) (eC .non))))
  (sRet (eC (.bl false)))
  sNil)
def lawT6 : SF := (sAsg (eTup (aCons (eTup (aCons (eC (.int 0)) (aCons (eC (.int 0)) (aCons (eC (.int 1)) (aCons (eC (.bl false)) aNil))))) (aCons (eTup (aCons (eC (.int 1)) (aCons (eC (.int 0)) (aCons (eC (.int 0)) (aCons (eC (.bl false)) aNil))))) (aCons (eTup (aCons (eC (.int 1)) (aCons (eC (.int 0)) (aCons (eC (.int 1)) (aCons (eC (.bl true)) aNil))))) aNil)))) (gN 4))
def lawT7 : SF := (sIf (tOrD (tNotD (tV (eCall m_is_paper (iCons (eVar 1) (iCons (eC (.str "days")) (iCons (eC (.int 1)) (iCons (eC (.int 0)) (iCons (eVar 4) iNil)))))))) (tV (eCall m_is_paper (iCons (eVar 1) (iCons (eC (.str "days")) (iCons (eC (.int 1)) (iCons (eC (.int 0)) (iCons (eSl (eVar 4) oNo (oSome (eC (.int 2)))) iNil))))))))
  (sRet (eC (.bl false)))
  sNil)
def lawT8 : SF := (sRet (eOp opIsB (eCall m_is_paper (iCons (eVar 1) (iCons (eC (.str "any")) (iCons (eC (.int 1)) (iCons (eC (.int 0)) (iCons (eVar 4) iNil)))))) (eC (.bl false))))
def lawB0 : SF := (sSrcNew 5 (nCall m__law_source (iSrc 0 (iCons (eVar 3) iNil))))
def lawB1 : SF := (sFor (jSeq (eLst (aCons (eC (.str "any")) (aCons (eC (.str "days")) (aCons (eC (.str "rare")) aNil))))) (gN 6)
  (f_law_b2))
def lawB2 : SF := (sAsg (eTup (aCons (eTup (aCons (eC (.int 0)) (aCons (eC (.int 0)) (aCons (eC (.int 1)) (aCons (eC (.bl false)) aNil))))) (aCons (eTup (aCons (eC (.int 1)) (aCons (eC (.int 0)) (aCons (eC (.int 1)) (aCons (eC (.bl false)) aNil))))) aNil))) (gN 7))
def lawB3 : SF := (sAsg (eLst (aCons (eC .non) (aCons (eB bList (aCons (eVar 7) aNil)) (aCons (eRevT (eVar 7)) (aCons (eOp opAdd (eVar 7) (eSl (eVar 7) (oSome (eC (.int 1))) oNo)) (aCons (eTup (aCons (eTup (aCons (eC (.int 0)) (aCons (eC (.int 0)) (aCons (eC (.int 1)) aNil)))) aNil)) (aCons (eTup (aCons (eTup (aCons (eC (.int 2)) (aCons (eC (.int 0)) (aCons (eC (.int 1)) (aCons (eC (.bl false)) aNil))))) aNil)) (aCons (eTup (aCons (eTup (aCons (eC (.int 0)) (aCons (eC (.int 1)) (aCons (eC (.int 1)) (aCons (eC (.bl false)) aNil))))) aNil)) aNil)))))))) (gN 8))
def lawB4 : SF := (sAsg (eOp opAdd (eVar 8) (eLst (aCons (eTup (aCons (eTup (aCons (eC (.int 0)) (aCons (eC (.int 0)) (aCons (eC (.int 2)) (aCons (eC (.bl false)) aNil))))) aNil)) (aCons (eTup (aCons (eTup (aCons (eC (.int 0)) (aCons (eC (.int 0)) (aCons (eNeg (eC (.int 1))) (aCons (eC (.bl false)) aNil))))) aNil)) (aCons (eTup (aCons (eTup (aCons (eC (.int 0)) (aCons (eC (.int 0)) (aCons (eC (.int 1)) (aCons (eC (.int 0)) aNil))))) aNil)) (aCons (eTup (aCons (eTup (aCons (eC (.bl true)) (aCons (eC (.int 0)) (aCons (eC (.int 1)) (aCons (eC (.bl false)) aNil))))) aNil)) (aCons (eTup (aCons (eC .non) aNil)) aNil))))))) (gN 8))
def lawB5 : SF := (sFor (jSeq (eVar 8)) (gN 9)
  (f_law_b3))
def lawB6 : SF := (sIf (tV (eOp opNe (eWord nx_ cl_word (eCall m_is_paper (iCons (eVar 2) (iCons (eC (.str "any")) (iCons (eC (.int 31)) (iCons (eC (.int 0)) (iCons (eC .non) iNil))))))) (eC (.str "number"))))
  (sRet (eC (.bl false)))
  sNil)
def lawB7 : SF := (sIf (tV (eOp opNe (eWord nx_ cl_word (eCall m_paper_for (iCons (eVar 2) (iCons (eC (.str "any")) (iCons (eC (.int 3)) (iCons (eC (.int 4)) iNil)))))) (eC (.str "number"))))
  (sRet (eC (.bl false)))
  sNil)
theorem e_t0 (x0 x3 x4 x5 x6 x7 x8 x9 x10 x11 : Option AU.It) (S : Sr) : lawT0 [x0, none, none, x3, x4, x5, x6, x7, x8, x9, x10, x11] S = some (.nx [x0, some (.d (bookD bPl)), none, x3, x4, x5, x6, x7, x8, x9, x10, x11] S) := by
  kernel_rfl
theorem e_t1 (x0 x3 x4 x5 x6 x7 x8 x9 x10 x11 : Option AU.It) (S : Sr) : lawT1 [x0, some (.d (bookD bPl)), none, x3, x4, x5, x6, x7, x8, x9, x10, x11] S = some (.nx [x0, some (.d (bookD bPl)), some (.d (bookD bAl)), x3, x4, x5, x6, x7, x8, x9, x10, x11] S) := by
  kernel_rfl
theorem e_t3 (x0 x3 x4 x5 x6 x8 x9 x10 x11 : Option AU.It) (S : Sr) : lawT3 [x0, some (.d (bookD bPl)), some (.d (bookD bAl)), x3, x4, x5, x6, some (.d goodD), x8, x9, x10, x11] S = some (.nx [x0, some (.d (bookD bPl)), some (.d (bookD bAl)), x3, x4, x5, x6, some (.d goodD), x8, x9, x10, x11] S) := by
  kernel_rfl
theorem e_t4 (x0 x3 x4 x5 x6 x8 x9 x10 x11 : Option AU.It) (S : Sr) : lawT4 [x0, some (.d (bookD bPl)), some (.d (bookD bAl)), x3, x4, x5, x6, some (.d goodD), x8, x9, x10, x11] S = some (.nx [x0, some (.d (bookD bPl)), some (.d (bookD bAl)), x3, x4, x5, x6, some (.d goodD), x8, x9, x10, x11] S) := by
  kernel_rfl
theorem e_t5 (x0 x3 x4 x5 x6 x8 x9 x10 x11 : Option AU.It) (S : Sr) : lawT5 [x0, some (.d (bookD bPl)), some (.d (bookD bAl)), x3, x4, x5, x6, some (.d goodD), x8, x9, x10, x11] S = some (.nx [x0, some (.d (bookD bPl)), some (.d (bookD bAl)), x3, x4, x5, x6, some (.d goodD), x8, x9, x10, x11] S) := by
  kernel_rfl
theorem e_t6 (x0 x3 x4 x5 x6 x8 x9 x10 x11 : Option AU.It) (S : Sr) : lawT6 [x0, some (.d (bookD bPl)), some (.d (bookD bAl)), x3, x4, x5, x6, some (.d goodD), x8, x9, x10, x11] S = some (.nx [x0, some (.d (bookD bPl)), some (.d (bookD bAl)), x3, some (.d daysD), x5, x6, some (.d goodD), x8, x9, x10, x11] S) := by
  kernel_rfl
theorem e_t7 (x0 x3 x5 x6 x8 x9 x10 x11 : Option AU.It) (S : Sr) : lawT7 [x0, some (.d (bookD bPl)), some (.d (bookD bAl)), x3, some (.d daysD), x5, x6, some (.d goodD), x8, x9, x10, x11] S = some (.nx [x0, some (.d (bookD bPl)), some (.d (bookD bAl)), x3, some (.d daysD), x5, x6, some (.d goodD), x8, x9, x10, x11] S) := by
  kernel_rfl
theorem e_t8 (x0 x3 x5 x6 x8 x9 x10 x11 : Option AU.It) (S : Sr) : lawT8 [x0, some (.d (bookD bPl)), some (.d (bookD bAl)), x3, some (.d daysD), x5, x6, some (.d goodD), x8, x9, x10, x11] S = some (.rt (.bl true) S) := by
  kernel_rfl
theorem e_B2 (x0 x3 x4 x5 x6 x7 x8 x9 x10 x11 : Option AU.It) (S : Sr) : lawB2 [x0, some (.d (bookD bPl)), some (.d (bookD bAl)), x3, x4, x5, x6, x7, x8, x9, x10, x11] S = some (.nx [x0, some (.d (bookD bPl)), some (.d (bookD bAl)), x3, x4, x5, x6, some (.d goodD), x8, x9, x10, x11] S) := by
  kernel_rfl
theorem e_B3 (x0 x3 x4 x5 x6 x8 x9 x10 x11 : Option AU.It) (S : Sr) : lawB3 [x0, some (.d (bookD bPl)), some (.d (bookD bAl)), x3, x4, x5, x6, some (.d goodD), x8, x9, x10, x11] S = some (.nx [x0, some (.d (bookD bPl)), some (.d (bookD bAl)), x3, x4, x5, x6, some (.d goodD), some (.d (.lst odds1)), x9, x10, x11] S) := by
  kernel_rfl
theorem e_B4 (x0 x3 x4 x5 x6 x9 x10 x11 : Option AU.It) (S : Sr) : lawB4 [x0, some (.d (bookD bPl)), some (.d (bookD bAl)), x3, x4, x5, x6, some (.d goodD), some (.d (.lst odds1)), x9, x10, x11] S = some (.nx [x0, some (.d (bookD bPl)), some (.d (bookD bAl)), x3, x4, x5, x6, some (.d goodD), some (.d (.lst oddsD)), x9, x10, x11] S) := by
  kernel_rfl
theorem e_odds (x0 x3 x4 x5 x6 x9 x10 x11 : Option AU.It) (S : Sr) : forD (gN 9) f_law_b3 oddsD [x0, some (.d (bookD bPl)), some (.d (bookD bAl)), x3, x4, x5, x6, some (.d goodD), some (.d (.lst oddsD)), x9, x10, x11] S = some (.nx [x0, some (.d (bookD bPl)), some (.d (bookD bAl)), x3, x4, x5, x6, some (.d goodD), some (.d (.lst oddsD)), some (.d (.tup [.non])), x10, x11] S) := by
  kernel_rfl
theorem e_B5 (x0 x3 x4 x5 x6 x9 x10 x11 : Option AU.It) (S : Sr) : lawB5 [x0, some (.d (bookD bPl)), some (.d (bookD bAl)), x3, x4, x5, x6, some (.d goodD), some (.d (.lst oddsD)), x9, x10, x11] S = some (.nx [x0, some (.d (bookD bPl)), some (.d (bookD bAl)), x3, x4, x5, x6, some (.d goodD), some (.d (.lst oddsD)), some (.d (.tup [.non])), x10, x11] S) := e_odds x0 x3 x4 x5 x6 x9 x10 x11 S
theorem e_B6 (x0 x3 x4 x5 x6 x10 x11 : Option AU.It) (S : Sr) : lawB6 [x0, some (.d (bookD bPl)), some (.d (bookD bAl)), x3, x4, x5, x6, some (.d goodD), some (.d (.lst oddsD)), some (.d (.tup [.non])), x10, x11] S = some (.nx [x0, some (.d (bookD bPl)), some (.d (bookD bAl)), x3, x4, x5, x6, some (.d goodD), some (.d (.lst oddsD)), some (.d (.tup [.non])), x10, x11] S) := by
  kernel_rfl
theorem e_B7 (x0 x3 x4 x5 x6 x10 x11 : Option AU.It) (S : Sr) : lawB7 [x0, some (.d (bookD bPl)), some (.d (bookD bAl)), x3, x4, x5, x6, some (.d goodD), some (.d (.lst oddsD)), some (.d (.tup [.non])), x10, x11] S = some (.nx [x0, some (.d (bookD bPl)), some (.d (bookD bAl)), x3, x4, x5, x6, some (.d goodD), some (.d (.lst oddsD)), some (.d (.tup [.non])), x10, x11] S) := by
  kernel_rfl
end AUL
set_option maxHeartbeats 0
namespace AUL
open PySem PySem.Spec PyProof.Rows L2 AU
theorem sq_nx {a b : SF} {env e : Env} {S S' : Sr} {o : Option AU.Out} (h : a env S = some (.nx e S')) (h2 : b e S' = o) : sSeq a b env S = o := by
  rw [sSeq_app, h]
  exact h2
/-- one book -/
theorem e_lb1 {b : Bk} (w : WF b) (c : Cl) {n : Int} (n0 : 0 ≤ n) (n1 : n ≤ 15) (x0 x1 x2 x3 x4 x7 x8 x9 : Option AU.It) (S : Sr) :
    ∃ S' : Sr, f_law_b1 [x0, x1, x2, x3, x4, some .s, some (.d (.str c.s)), x7, x8, x9, some (.d (.int n)), some (.d (bookD b))] S = some (.nx [x0, x1, x2, x3, x4, some .s, some (.d (.str c.s)), x7, x8, x9, some (.d (.int n)), some (.d (bookD b))] S') := by
  obtain ⟨away, S1, q1, a0, a1⟩ := e_draw (n + 1) S (by omega) (by omega)
  obtain ⟨S2, q2⟩ := e_right5 (n := n) w c a0 (by omega) (by omega) S1
  exact ⟨S2, by simp [f_law_b1, q1, q2]⟩
/-- one climate -/
theorem e_lb2 (c : Cl) (x0 x3 x4 x7 x8 x9 x10 x11 : Option AU.It) (S : Sr) :
    ∃ (d10 d11 : DD) (S' : Sr), f_law_b2 [x0, some (.d (bookD bPl)), some (.d (bookD bAl)), x3, x4, some .s, some (.d (.str c.s)), x7, x8, x9, x10, x11] S = some (.nx [x0, some (.d (bookD bPl)), some (.d (bookD bAl)), x3, x4, some .s, some (.d (.str c.s)), x7, x8, x9, some (.d d10), some (.d d11)] S') := by
  obtain ⟨d1, S2, q1, p1, p1'⟩ := e_draw 16 S (by decide) (by decide)
  obtain ⟨x, S3, q2, hx⟩ := e_choice [.int 0, .int 1, .int 2, .int d1] S2 (by simp) (by simp)
  obtain ⟨n, rfl, h0, h1⟩ : ∃ a : Int, x = .int a ∧ 0 ≤ a ∧ a ≤ 15 := by
    simp only [List.mem_cons, List.not_mem_nil, or_false] at hx
    rcases hx with rfl | rfl | rfl | rfl
    · exact ⟨_, rfl, by omega, by omega⟩
    · exact ⟨_, rfl, by omega, by omega⟩
    · exact ⟨_, rfl, by omega, by omega⟩
    · exact ⟨_, rfl, by omega, by omega⟩
  obtain ⟨b, S4, e1, w⟩ := e_book S3
  obtain ⟨y, S5, q4, hy⟩ := e_choice [bookD bPl, bookD bAl] S4 (by simp) (by simp)
  obtain ⟨b2, rfl, w2⟩ : ∃ b2, y = bookD b2 ∧ WF b2 := by
    simp only [List.mem_cons, List.not_mem_nil, or_false] at hy
    rcases hy with rfl | rfl
    · exact ⟨_, rfl, w_pl⟩
    · exact ⟨_, rfl, w_al⟩
  obtain ⟨S6, q5⟩ := e_lb1 w c h0 h1 x0 (some (.d (bookD bPl))) (some (.d (bookD bAl))) x3 x4 x7 x8 x9 S5
  obtain ⟨S7, q6⟩ := e_lb1 w2 c h0 h1 x0 (some (.d (bookD bPl))) (some (.d (bookD bAl))) x3 x4 x7 x8 x9 S6
  refine ⟨.int n, bookD b2, S7, ?_⟩
  generalize bookD bPl = P at *
  generalize bookD bAl = A at *
  generalize bookD b = B1 at *
  generalize bookD b2 = B2 at *
  simp [f_law_b2, q1, q2, e1, q4, forD, q5, q6]
section
variable {ns : List Int}
theorem e_b4 (k : Nat) (x4 x5 x6 x7 x8 x9 x10 x11 : Option AU.It) (S : Sr) (h4 : nsB x4 = true) (h6 : nsB x6 = true) (h7 : nsB x7 = true) (h8 : nsB x8 = true) (h9 : nsB x9 = true) (h10 : nsB x10 = true) (h11 : nsB x11 = true) :
    ∃ (d6 d8 d9 d10 d11 : DD) (S' : Sr), f_law_b4 [some (.sc ns), some (.d (bookD bPl)), some (.d (bookD bAl)), some (.d (.int (k : Nat))), x4, x5, x6, x7, x8, x9, x10, x11] S = some (.nx [some (.sc ns), some (.d (bookD bPl)), some (.d (bookD bAl)), some (.d (.int (k : Nat))), x4, some .s, some (.d d6), some (.d goodD), some (.d d8), some (.d d9), some (.d d10), some (.d d11)] S') := by
  obtain ⟨x, y, e1⟩ := e_source ns k (0, 0)
  obtain ⟨c10, c11, S1, q1⟩ := e_lb2 .any (some (.sc ns)) (some (.d (.int (k : Nat)))) x4 x7 x8 x9 x10 x11 (x, y)
  obtain ⟨c10', c11', S2, q2⟩ := e_lb2 .days (some (.sc ns)) (some (.d (.int (k : Nat)))) x4 x7 x8 x9 (some (.d c10)) (some (.d c11)) S1
  obtain ⟨d10, d11, S3, q3⟩ := e_lb2 .rare (some (.sc ns)) (some (.d (.int (k : Nat)))) x4 x7 x8 x9 (some (.d c10')) (some (.d c11')) S2
  have E2 := fun x0 x3 x4 x5 x6 x7 x8 x9 x10 x11 S => e_B2 x0 x3 x4 x5 x6 x7 x8 x9 x10 x11 S
  have E3 := fun x0 x3 x4 x5 x6 x8 x9 x10 x11 S => e_B3 x0 x3 x4 x5 x6 x8 x9 x10 x11 S
  have E4 := fun x0 x3 x4 x5 x6 x9 x10 x11 S => e_B4 x0 x3 x4 x5 x6 x9 x10 x11 S
  have E5 := fun x0 x3 x4 x5 x6 x9 x10 x11 S => e_B5 x0 x3 x4 x5 x6 x9 x10 x11 S
  have E6 := fun x0 x3 x4 x5 x6 x10 x11 S => e_B6 x0 x3 x4 x5 x6 x10 x11 S
  have E7 := fun x0 x3 x4 x5 x6 x10 x11 S => e_B7 x0 x3 x4 x5 x6 x10 x11 S
  refine ⟨.str "rare", .lst oddsD, .tup [.non], d10, d11, S3, ?_⟩
  have s1s : Cl.any.s = "any" := rfl
  have s2s : Cl.days.s = "days" := rfl
  have s3s : Cl.rare.s = "rare" := rfl
  rw [s1s] at q1
  rw [s2s] at q2
  rw [s3s] at q3
  generalize bookD bPl = P at *
  generalize bookD bAl = A at *
  generalize goodD = Gd at *
  generalize oddsD = Od at *
  have hn : noS [some (.sc ns), some (.d P), some (.d A), some (.d (.int (k : Nat))), x4, none, x6, x7, x8, x9, x10, x11] = true := by
    rw [noS_eq]
    simp [h4, h6, h7, h8, h9, h10, h11, nsB_n, nsB_d, nsB_sc]
  have s0 : lawB0 [some (.sc ns), some (.d P), some (.d A), some (.d (.int (k : Nat))), x4, x5, x6, x7, x8, x9, x10, x11] S = some (.nx [some (.sc ns), some (.d P), some (.d A), some (.d (.int (k : Nat))), x4, some .s, x6, x7, x8, x9, x10, x11] (x, y)) := by
    simp [lawB0, e1, hn]
  have s1 : lawB1 [some (.sc ns), some (.d P), some (.d A), some (.d (.int (k : Nat))), x4, some .s, x6, x7, x8, x9, x10, x11] (x, y) = some (.nx [some (.sc ns), some (.d P), some (.d A), some (.d (.int (k : Nat))), x4, some .s, some (.d (.str "rare")), x7, x8, x9, some (.d d10), some (.d d11)] S3) := by
    simp [lawB1, forD, q1, q2, q3]
  have ef : f_law_b4 = sSeq lawB0 (sSeq lawB1 (sSeq lawB2 (sSeq lawB3 (sSeq lawB4 (sSeq lawB5 (sSeq lawB6 lawB7)))))) := rfl
  rw [ef]
  exact sq_nx s0 (sq_nx s1 (sq_nx (E2 _ _ _ _ _ _ _ _ _ _ _) (sq_nx (E3 _ _ _ _ _ _ _ _ _ _) (sq_nx (E4 _ _ _ _ _ _ _ _ _) (sq_nx (E5 _ _ _ _ _ _ _ _ _) (sq_nx (E6 _ _ _ _ _ _ _ _) (E7 _ _ _ _ _ _ _ _)))))))
end
theorem law_true : ∀ ns : List Int, ns.length ≤ 63 → (∀ z ∈ ns, Builtin.Int.intBits z ≤ 1048576) → ∃ S', f_law (env0 N_law.length [.sc ns]) (0, 0) = some (.rt (.bl true) S') := fun ns hl _ => by
  obtain ⟨j, hj, hj2, hj1⟩ : ∃ j : Nat, 1 + minI (ns.length : Int) 8 = (j : Int) ∧ j ≤ 9 ∧ 1 ≤ j := ⟨(1 + minI (ns.length : Int) 8).toNat, by unfold minI; split <;> omega, by unfold minI; split <;> omega, by unfold minI; split <;> omega⟩
  obtain ⟨e, S', h1, x3, x4, x5, x6, x7, x8, x9, x10, x11, h2, _, _, _, _, _, _, _, hg⟩ := forD_inv (fg := gN 3) (fb := f_law_b4) (fun i env _ => ∃ x3 x4 x5 x6 x7 x8 x9 x10 x11, env = [some (.sc ns), some (.d (bookD bPl)), some (.d (bookD bAl)), x3, x4, x5, x6, x7, x8, x9, x10, x11] ∧ nsB x4 = true ∧ nsB x6 = true ∧ nsB x7 = true ∧ nsB x8 = true ∧ nsB x9 = true ∧ nsB x10 = true ∧ nsB x11 = true ∧ (0 < i → x7 = some (.d goodD)))
    (rngD 0 j) 0 [some (.sc ns), some (.d (bookD bPl)), some (.d (bookD bAl)), none, none, none, none, none, none, none, none, none] (0, 0) ⟨none, none, none, none, none, none, none, none, none, rfl, rfl, rfl, rfl, rfl, rfl, rfl, rfl, fun h => absurd h (Nat.lt_irrefl _)⟩ (fun i d env S hi hI => by
      obtain ⟨x3, x4, x5, x6, x7, x8, x9, x10, x11, rfl, h4, h6, h7, h8, h9, h10, h11, _⟩ := hI
      obtain ⟨hi2, rfl⟩ := rng_item hi
      obtain ⟨d6, d8, d9, d10, d11, S1, e⟩ := e_b4 (ns := ns) i x4 x5 x6 x7 x8 x9 x10 x11 S h4 h6 h7 h8 h9 h10 h11
      exact ⟨_, rfl, _, S1, .inl e, _, _, _, _, _, _, _, _, _, rfl, h4, rfl, rfl, rfl, rfl, rfl, rfl, fun _ => rfl⟩)
  subst h2
  have hlen : (rngD 0 j).length = j := by simp [rngD]
  obtain rfl := hg (by rw [hlen]; omega)
  refine ⟨S', ?_⟩
  have hz : ((-100000 : Int) ≤ j) = True := eq_true (by omega)
  have hz2 : ((j : Int) ≤ 100000) = True := eq_true (by omega)
  have e0 : env0 N_law.length [.sc ns] = [some (.sc ns), none, none, none, none, none, none, none, none, none, none, none] := rfl
  have ef : f_law = sSeq lawT0 (sSeq lawT1 (sSeq lawT2 (sSeq lawT3 (sSeq lawT4 (sSeq lawT5 (sSeq lawT6 (sSeq lawT7 lawT8))))))) := rfl
  have T3 := e_t3 (some (.sc ns)) x3 x4 x5 x6 x8 x9 x10 x11 S'
  have T4 := e_t4 (some (.sc ns)) x3 x4 x5 x6 x8 x9 x10 x11 S'
  have T5 := e_t5 (some (.sc ns)) x3 x4 x5 x6 x8 x9 x10 x11 S'
  have T6 := e_t6 (some (.sc ns)) x3 x4 x5 x6 x8 x9 x10 x11 S'
  have T7 := e_t7 (some (.sc ns)) x3 x5 x6 x8 x9 x10 x11 S'
  have T8 := e_t8 (some (.sc ns)) x3 x5 x6 x8 x9 x10 x11 S'
  have T0 := e_t0 (some (.sc ns)) none none none none none none none none none (0, 0)
  have T1 := e_t1 (some (.sc ns)) none none none none none none none none none (0, 0)
  rw [ef, e0]
  generalize bookD bPl = P at *
  generalize bookD bAl = A at *
  generalize goodD = Gd at *
  generalize daysD = Dd at *
  have s2 : lawT2 [some (.sc ns), some (.d P), some (.d A), none, none, none, none, none, none, none, none, none] (0, 0) = some (.nx [some (.sc ns), some (.d P), some (.d A), x3, x4, x5, x6, some (.d Gd), x8, x9, x10, x11] S') := by
    simp [lawT2, hj, hz, hz2, h1]
  exact sq_nx T0 (sq_nx T1 (sq_nx s2 (sq_nx T3 (sq_nx T4 (sq_nx T5 (sq_nx T6 (sq_nx T7 T8)))))))
end AUL
namespace AUL
open PySem PySem.Spec PyProof.Rows L2 AU
def D_is_from : He.DefD := ⟨("is_from", none), "is_from", "is_from", defArgs (top 11), defBody (top 11), defScope (top 11), [], []⟩
def D_is_entry : He.DefD := ⟨("is_entry", none), "is_entry", "is_entry", defArgs (top 12), defBody (top 12), defScope (top 12), [], []⟩
def D_is_mood : He.DefD := ⟨("is_mood", none), "is_mood", "is_mood", defArgs (top 13), defBody (top 13), defScope (top 13), [], []⟩
def D_has_book : He.DefD := ⟨("has_book", none), "has_book", "has_book", defArgs (top 14), defBody (top 14), defScope (top 14), [], []⟩
def D_need_book : He.DefD := ⟨("need_book", none), "need_book", "need_book", defArgs (top 15), defBody (top 15), defScope (top 15), [], []⟩
def D_need_climate : He.DefD := ⟨("need_climate", none), "need_climate", "need_climate", defArgs (top 16), defBody (top 16), defScope (top 16), [], []⟩
def D_need_both : He.DefD := ⟨("need_both", none), "need_both", "need_both", defArgs (top 17), defBody (top 17), defScope (top 17), [], []⟩
def D_need_number : He.DefD := ⟨("need_number", none), "need_number", "need_number", defArgs (top 18), defBody (top 18), defScope (top 18), [], []⟩
def D_look_of : He.DefD := ⟨("look_of", none), "look_of", "look_of", defArgs (top 20), defBody (top 20), defScope (top 20), [], []⟩
def D_walk_of : He.DefD := ⟨("walk_of", none), "walk_of", "walk_of", defArgs (top 21), defBody (top 21), defScope (top 21), [], []⟩
def D_rains : He.DefD := ⟨("rains", none), "rains", "rains", defArgs (top 23), defBody (top 23), defScope (top 23), [], []⟩
def D_remembered : He.DefD := ⟨("remembered", none), "remembered", "remembered", defArgs (top 24), defBody (top 24), defScope (top 24), [], []⟩
def D_step_of : He.DefD := ⟨("step_of", none), "step_of", "step_of", defArgs (top 25), defBody (top 25), defScope (top 25), [], []⟩
def D_steps_of : He.DefD := ⟨("steps_of", none), "steps_of", "steps_of", defArgs (top 26), defBody (top 26), defScope (top 26), [], []⟩
def D_first_stand : He.DefD := ⟨("first_stand", none), "first_stand", "first_stand", defArgs (top 27), defBody (top 27), defScope (top 27), [], []⟩
def D_reached : He.DefD := ⟨("reached", none), "reached", "reached", defArgs (top 28), defBody (top 28), defScope (top 28), [], []⟩
def D_need_few : He.DefD := ⟨("need_few", none), "need_few", "need_few", defArgs (top 29), defBody (top 29), defScope (top 29), [], []⟩
def D_is_stand : He.DefD := ⟨("is_stand", none), "is_stand", "is_stand", defArgs (top 31), defBody (top 31), defScope (top 31), [], []⟩
def D_need_paper : He.DefD := ⟨("need_paper", none), "need_paper", "need_paper", defArgs (top 32), defBody (top 32), defScope (top 32), [], []⟩
def D_is_dry : He.DefD := ⟨("is_dry", none), "is_dry", "is_dry", defArgs (top 33), defBody (top 33), defScope (top 33), [], []⟩
def D_is_paper : He.DefD := ⟨("is_paper", none), "is_paper", "is_paper", defArgs (top 34), defBody (top 34), defScope (top 34), [], []⟩
def D_paper_for : He.DefD := ⟨("paper_for", none), "paper_for", "paper_for", defArgs (top 35), defBody (top 35), defScope (top 35), [], []⟩
def D__law_source : He.DefD := ⟨("_law_source", none), "_law_source", "_law_source", defArgs (top 37), defBody (top 37), defScope (top 37), [], []⟩
def D__law_draw : He.DefD := ⟨("_law_draw", none), "_law_draw", "_law_draw", defArgs (top 38), defBody (top 38), defScope (top 38), [], []⟩
def D__law_choice : He.DefD := ⟨("_law_choice", none), "_law_choice", "_law_choice", defArgs (top 39), defBody (top 39), defScope (top 39), [], []⟩
def D__law_book : He.DefD := ⟨("_law_book", none), "_law_book", "_law_book", defArgs (top 40), defBody (top 40), defScope (top 40), [], []⟩
def D__law_deed : He.DefD := ⟨("_law_deed", none), "_law_deed", "_law_deed", defArgs (top 41), defBody (top 41), defScope (top 41), [], []⟩
def D__law_next : He.DefD := ⟨("_law_next", none), "_law_next", "_law_next", defArgs (top 42), defBody (top 42), defScope (top 42), [], []⟩
def D__law_reached : He.DefD := ⟨("_law_reached", none), "_law_reached", "_law_reached", defArgs (top 43), defBody (top 43), defScope (top 43), [], []⟩
def D__law_wet : He.DefD := ⟨("_law_wet", none), "_law_wet", "_law_wet", defArgs (top 44), defBody (top 44), defScope (top 44), [], []⟩
def D__law_shows : He.DefD := ⟨("_law_shows", none), "_law_shows", "_law_shows", defArgs (top 45), defBody (top 45), defScope (top 45), [], []⟩
def D__law_bent : He.DefD := ⟨("_law_bent", none), "_law_bent", "_law_bent", defArgs (top 46), defBody (top 46), defScope (top 46), [], []⟩
def D__law_right : He.DefD := ⟨("_law_right", none), "_law_right", "_law_right", defArgs (top 47), defBody (top 47), defScope (top 47), [], []⟩
def D__law_word : He.DefD := ⟨("_law_word", none), "_law_word", "_law_word", defArgs (top 48), defBody (top 48), defScope (top 48), [], []⟩
def D_law : He.DefD := ⟨("law", none), "law", "law", defArgs (top 49), defBody (top 49), defScope (top 49), [], []⟩
def fn_ : List He.DefD := ([D_is_from, D_is_entry, D_is_mood, D_has_book, D_need_book, D_need_climate, D_need_both, D_need_number, D_look_of, D_walk_of, D_rains, D_remembered, D_step_of, D_steps_of, D_first_stand, D_reached, D_need_few, D_is_stand, D_need_paper, D_is_dry, D_is_paper, D_paper_for, D__law_source, D__law_draw, D__law_choice, D__law_book, D__law_deed, D__law_next, D__law_reached, D__law_wet] : List He.DefD) ++ ([D__law_shows, D__law_bent, D__law_right, D__law_word, D_law] : List He.DefD)
def fa_ : List He.Fa := ([.glo "is_from", .glo "is_entry", .glo "is_mood", .glo "has_book", .glo "need_book", .glo "need_climate", .glo "need_both", .glo "need_number", .glo "look_of", .glo "walk_of", .glo "rains", .glo "remembered", .glo "step_of", .glo "steps_of", .glo "first_stand", .glo "reached", .glo "need_few", .glo "is_stand", .glo "need_paper", .glo "is_dry", .glo "is_paper", .glo "paper_for", .glo "_law_source", .glo "_law_draw", .glo "_law_choice", .glo "_law_book", .glo "_law_deed", .glo "_law_next", .glo "_law_reached", .glo "_law_wet"] : List He.Fa) ++ ([.glo "_law_shows", .glo "_law_bent", .glo "_law_right", .glo "_law_word", .glo "law", .free "abs", .free "all", .free "any", .free "bool", .free "dict", .free "enumerate", .free "int", .free "isinstance", .free "len", .free "list", .free "min", .free "range", .free "set", .free "sorted", .free "str", .free "tuple", .free "zip", .glo "CLIMATES", .glo "DEEDS", .int "FEW" (30), .int "MOST_MOODS" (2), .glo "InvalidBook", .exc "InvalidBook", .glo "InvalidClimate", .exc "InvalidClimate"] : List He.Fa) ++ ([.glo "InvalidNumber", .exc "InvalidNumber", .glo "InvalidPaper", .exc "InvalidPaper"] : List He.Fa)
def names_ : List Str := ["InvalidBook", "InvalidClimate", "InvalidNumber", "InvalidPaper"]
def tups_ : List (Str × List Str) := [("CLIMATES", ["any", "days", "rare"]), ("DEEDS", ["leave", "take"])]
def ex_ (K : PySem.W.Frag) : Bool := exmB K names_ && (tups_.all fun t => He.tupB K t.1 (t.2.map He.Dv.str))
def tf_ : List He.Defn := [("law", none)]
abbrev R_ : PySem.W.OpenRow := PySem.W.OpenLaw.row PySem.Challenge.rw_anyumbrellas_k05_whole_papers_of_dry_wal
abbrev hk_ : PySem.W.Hook := He.hookX 5 fa_ fn_ [] tf_ ex_
def ob_ (s : PySem.W.SharedT) : He.AlX := He.obsX 5 fa_ fn_ [] tf_ ex_ (HandSHeadRun.getT s)
theorem ob_eq (s : PySem.W.SharedT) : ob_ s = hk_.obs s.abs := He.obsX_eq (HandSHeadRun.getT_eq s)
def loose_ : List Str := (["__name__", "UmbrellaError", "InvalidBook", "InvalidClimate", "InvalidNumber", "InvalidPaper", "CLIMATES", "DEEDS", "MOST_MOODS", "FEW", "is_from", "is_entry", "is_mood", "has_book", "need_book", "need_climate", "need_both", "need_number", "look_of", "walk_of", "rains", "remembered", "step_of", "steps_of", "first_stand", "reached", "need_few", "is_stand", "need_paper", "is_dry"] : List Str) ++ (["is_paper", "paper_for", "_law_source", "_law_draw", "_law_choice", "_law_book", "_law_deed", "_law_next", "_law_reached", "_law_wet", "_law_shows", "_law_bent", "_law_right", "_law_word"] : List Str)
theorem run_ (w : World) : HandSHeadRun.RunEq R_ (PySem.W.view R_.prog [49]) hk_ ob_ 14000 loose_ w := by
  intro os
  kernel_rfl
abbrev clsK (K : PySem.W.Frag) : Nat → Value := clsOf K names_
theorem txt_ {K : PySem.W.Frag} {h : Heap} {mg : Str → Option Value} (X : K.In h) (G : h.Ns mainGlobals mg) (c : He.SaysD fa_ fn_ K) (e : ex_ K = true) : Txt K mg (clsK K) := by
  obtain ⟨e1, e2⟩ := He.ba e
  have fx : ∀ {f : He.Fa}, f ∈ fa_ → f.ok K = true := fun h => c.facts h
  exact ⟨He.free_ok X G (c.fact 35 (f := .free "abs") rfl),
    He.free_ok X G (c.fact 36 (f := .free "all") rfl),
    He.free_ok X G (c.fact 37 (f := .free "any") rfl),
    He.free_ok X G (c.fact 38 (f := .free "bool") rfl),
    He.free_ok X G (c.fact 39 (f := .free "dict") rfl),
    He.free_ok X G (c.fact 40 (f := .free "enumerate") rfl),
    He.free_ok X G (c.fact 41 (f := .free "int") rfl),
    He.free_ok X G (c.fact 42 (f := .free "isinstance") rfl),
    He.free_ok X G (c.fact 43 (f := .free "len") rfl),
    He.free_ok X G (c.fact 44 (f := .free "list") rfl),
    He.free_ok X G (c.fact 45 (f := .free "min") rfl),
    He.free_ok X G (c.fact 46 (f := .free "range") rfl),
    He.free_ok X G (c.fact 47 (f := .free "set") rfl),
    He.free_ok X G (c.fact 48 (f := .free "sorted") rfl),
    He.free_ok X G (c.fact 49 (f := .free "str") rfl),
    He.free_ok X G (c.fact 50 (f := .free "tuple") rfl),
    He.free_ok X G (c.fact 51 (f := .free "zip") rfl),
    gloT_strs (xs := ["any", "days", "rare"]) (He.glo_ok X G (c.fact 52 (f := .glo "CLIMATES") rfl)) (List.all_eq_true.mp e2 ("CLIMATES", ["any", "days", "rare"]) (by simp [tups_])),
    gloT_strs (xs := ["leave", "take"]) (He.glo_ok X G (c.fact 53 (f := .glo "DEEDS") rfl)) (List.all_eq_true.mp e2 ("DEEDS", ["leave", "take"]) (by simp [tups_])),
    He.int_ok X G (c.fact 54 (f := .int "FEW" (30)) rfl),
    He.int_ok X G (c.fact 55 (f := .int "MOST_MOODS" (2)) rfl),
    excC_of rfl (He.glo_ok X G (c.fact 56 (f := .glo "InvalidBook") rfl)) (c.fact 57 (f := .exc "InvalidBook") rfl),
    He.glo_ok X G (c.fact 56 (f := .glo "InvalidBook") rfl),
    excC_of rfl (He.glo_ok X G (c.fact 58 (f := .glo "InvalidClimate") rfl)) (c.fact 59 (f := .exc "InvalidClimate") rfl),
    He.glo_ok X G (c.fact 58 (f := .glo "InvalidClimate") rfl),
    excC_of rfl (He.glo_ok X G (c.fact 60 (f := .glo "InvalidNumber") rfl)) (c.fact 61 (f := .exc "InvalidNumber") rfl),
    He.glo_ok X G (c.fact 60 (f := .glo "InvalidNumber") rfl),
    excC_of rfl (He.glo_ok X G (c.fact 62 (f := .glo "InvalidPaper") rfl)) (c.fact 63 (f := .exc "InvalidPaper") rfl),
    He.glo_ok X G (c.fact 62 (f := .glo "InvalidPaper") rfl),
    exmB_ok e1⟩
theorem facts_ {P : Program} {w : World} {K : PySem.W.Frag} {h : Heap} {mg : Str → Option Value} {f : Addr} (X : K.In h) (G : h.Ns mainGlobals mg) (hfa : mg ("law" : Str) = some (.ref f)) (c : He.SaysD fa_ fn_ K) (e : ex_ K = true) :
    ∃ fd : FuncData, (∀ (s : Shared) (v : Value), BindsTo s fd ⟨[v], []⟩ [("_law_script", v)]) ∧ ∀ base : Heap, K.In base → base.Ns mainGlobals mg → (∀ p ∈ tf_.map (He.cT K), LamX.TabB base mg p.1 p.2) → FnOk P w K mg base (L2.CX P w) 12 f fd ["_law_script"] (spL K ((tf_.map (He.cT K)).map fun p => (p.2, lamQ))) := by
  have T := txt_ X G c e
  obtain ⟨fd_is_from, F_is_from⟩ := c.def_ 0 (d := D_is_from) rfl
  have hm_is_from : mg "is_from" = some (.ref (He.ga K "is_from")) := He.glo_ok X G (c.fact 0 (f := .glo "is_from") rfl)
  obtain ⟨fd_is_entry, F_is_entry⟩ := c.def_ 1 (d := D_is_entry) rfl
  have hm_is_entry : mg "is_entry" = some (.ref (He.ga K "is_entry")) := He.glo_ok X G (c.fact 1 (f := .glo "is_entry") rfl)
  obtain ⟨fd_is_mood, F_is_mood⟩ := c.def_ 2 (d := D_is_mood) rfl
  have hm_is_mood : mg "is_mood" = some (.ref (He.ga K "is_mood")) := He.glo_ok X G (c.fact 2 (f := .glo "is_mood") rfl)
  obtain ⟨fd_has_book, F_has_book⟩ := c.def_ 3 (d := D_has_book) rfl
  have hm_has_book : mg "has_book" = some (.ref (He.ga K "has_book")) := He.glo_ok X G (c.fact 3 (f := .glo "has_book") rfl)
  obtain ⟨fd_need_book, F_need_book⟩ := c.def_ 4 (d := D_need_book) rfl
  have hm_need_book : mg "need_book" = some (.ref (He.ga K "need_book")) := He.glo_ok X G (c.fact 4 (f := .glo "need_book") rfl)
  obtain ⟨fd_need_climate, F_need_climate⟩ := c.def_ 5 (d := D_need_climate) rfl
  have hm_need_climate : mg "need_climate" = some (.ref (He.ga K "need_climate")) := He.glo_ok X G (c.fact 5 (f := .glo "need_climate") rfl)
  obtain ⟨fd_need_both, F_need_both⟩ := c.def_ 6 (d := D_need_both) rfl
  have hm_need_both : mg "need_both" = some (.ref (He.ga K "need_both")) := He.glo_ok X G (c.fact 6 (f := .glo "need_both") rfl)
  obtain ⟨fd_need_number, F_need_number⟩ := c.def_ 7 (d := D_need_number) rfl
  have hm_need_number : mg "need_number" = some (.ref (He.ga K "need_number")) := He.glo_ok X G (c.fact 7 (f := .glo "need_number") rfl)
  obtain ⟨fd_look_of, F_look_of⟩ := c.def_ 8 (d := D_look_of) rfl
  have hm_look_of : mg "look_of" = some (.ref (He.ga K "look_of")) := He.glo_ok X G (c.fact 8 (f := .glo "look_of") rfl)
  obtain ⟨fd_walk_of, F_walk_of⟩ := c.def_ 9 (d := D_walk_of) rfl
  have hm_walk_of : mg "walk_of" = some (.ref (He.ga K "walk_of")) := He.glo_ok X G (c.fact 9 (f := .glo "walk_of") rfl)
  obtain ⟨fd_rains, F_rains⟩ := c.def_ 10 (d := D_rains) rfl
  have hm_rains : mg "rains" = some (.ref (He.ga K "rains")) := He.glo_ok X G (c.fact 10 (f := .glo "rains") rfl)
  obtain ⟨fd_remembered, F_remembered⟩ := c.def_ 11 (d := D_remembered) rfl
  have hm_remembered : mg "remembered" = some (.ref (He.ga K "remembered")) := He.glo_ok X G (c.fact 11 (f := .glo "remembered") rfl)
  obtain ⟨fd_step_of, F_step_of⟩ := c.def_ 12 (d := D_step_of) rfl
  have hm_step_of : mg "step_of" = some (.ref (He.ga K "step_of")) := He.glo_ok X G (c.fact 12 (f := .glo "step_of") rfl)
  obtain ⟨fd_steps_of, F_steps_of⟩ := c.def_ 13 (d := D_steps_of) rfl
  have hm_steps_of : mg "steps_of" = some (.ref (He.ga K "steps_of")) := He.glo_ok X G (c.fact 13 (f := .glo "steps_of") rfl)
  obtain ⟨fd_first_stand, F_first_stand⟩ := c.def_ 14 (d := D_first_stand) rfl
  have hm_first_stand : mg "first_stand" = some (.ref (He.ga K "first_stand")) := He.glo_ok X G (c.fact 14 (f := .glo "first_stand") rfl)
  obtain ⟨fd_reached, F_reached⟩ := c.def_ 15 (d := D_reached) rfl
  have hm_reached : mg "reached" = some (.ref (He.ga K "reached")) := He.glo_ok X G (c.fact 15 (f := .glo "reached") rfl)
  obtain ⟨fd_need_few, F_need_few⟩ := c.def_ 16 (d := D_need_few) rfl
  have hm_need_few : mg "need_few" = some (.ref (He.ga K "need_few")) := He.glo_ok X G (c.fact 16 (f := .glo "need_few") rfl)
  obtain ⟨fd_is_stand, F_is_stand⟩ := c.def_ 17 (d := D_is_stand) rfl
  have hm_is_stand : mg "is_stand" = some (.ref (He.ga K "is_stand")) := He.glo_ok X G (c.fact 17 (f := .glo "is_stand") rfl)
  obtain ⟨fd_need_paper, F_need_paper⟩ := c.def_ 18 (d := D_need_paper) rfl
  have hm_need_paper : mg "need_paper" = some (.ref (He.ga K "need_paper")) := He.glo_ok X G (c.fact 18 (f := .glo "need_paper") rfl)
  obtain ⟨fd_is_dry, F_is_dry⟩ := c.def_ 19 (d := D_is_dry) rfl
  have hm_is_dry : mg "is_dry" = some (.ref (He.ga K "is_dry")) := He.glo_ok X G (c.fact 19 (f := .glo "is_dry") rfl)
  obtain ⟨fd_is_paper, F_is_paper⟩ := c.def_ 20 (d := D_is_paper) rfl
  have hm_is_paper : mg "is_paper" = some (.ref (He.ga K "is_paper")) := He.glo_ok X G (c.fact 20 (f := .glo "is_paper") rfl)
  obtain ⟨fd_paper_for, F_paper_for⟩ := c.def_ 21 (d := D_paper_for) rfl
  have hm_paper_for : mg "paper_for" = some (.ref (He.ga K "paper_for")) := He.glo_ok X G (c.fact 21 (f := .glo "paper_for") rfl)
  obtain ⟨fd__law_source, F__law_source⟩ := c.def_ 22 (d := D__law_source) rfl
  have hm__law_source : mg "_law_source" = some (.ref (He.ga K "_law_source")) := He.glo_ok X G (c.fact 22 (f := .glo "_law_source") rfl)
  obtain ⟨fd__law_draw, F__law_draw⟩ := c.def_ 23 (d := D__law_draw) rfl
  have hm__law_draw : mg "_law_draw" = some (.ref (He.ga K "_law_draw")) := He.glo_ok X G (c.fact 23 (f := .glo "_law_draw") rfl)
  obtain ⟨fd__law_choice, F__law_choice⟩ := c.def_ 24 (d := D__law_choice) rfl
  have hm__law_choice : mg "_law_choice" = some (.ref (He.ga K "_law_choice")) := He.glo_ok X G (c.fact 24 (f := .glo "_law_choice") rfl)
  obtain ⟨fd__law_book, F__law_book⟩ := c.def_ 25 (d := D__law_book) rfl
  have hm__law_book : mg "_law_book" = some (.ref (He.ga K "_law_book")) := He.glo_ok X G (c.fact 25 (f := .glo "_law_book") rfl)
  obtain ⟨fd__law_deed, F__law_deed⟩ := c.def_ 26 (d := D__law_deed) rfl
  have hm__law_deed : mg "_law_deed" = some (.ref (He.ga K "_law_deed")) := He.glo_ok X G (c.fact 26 (f := .glo "_law_deed") rfl)
  obtain ⟨fd__law_next, F__law_next⟩ := c.def_ 27 (d := D__law_next) rfl
  have hm__law_next : mg "_law_next" = some (.ref (He.ga K "_law_next")) := He.glo_ok X G (c.fact 27 (f := .glo "_law_next") rfl)
  obtain ⟨fd__law_reached, F__law_reached⟩ := c.def_ 28 (d := D__law_reached) rfl
  have hm__law_reached : mg "_law_reached" = some (.ref (He.ga K "_law_reached")) := He.glo_ok X G (c.fact 28 (f := .glo "_law_reached") rfl)
  obtain ⟨fd__law_wet, F__law_wet⟩ := c.def_ 29 (d := D__law_wet) rfl
  have hm__law_wet : mg "_law_wet" = some (.ref (He.ga K "_law_wet")) := He.glo_ok X G (c.fact 29 (f := .glo "_law_wet") rfl)
  obtain ⟨fd__law_shows, F__law_shows⟩ := c.def_ 30 (d := D__law_shows) rfl
  have hm__law_shows : mg "_law_shows" = some (.ref (He.ga K "_law_shows")) := He.glo_ok X G (c.fact 30 (f := .glo "_law_shows") rfl)
  obtain ⟨fd__law_bent, F__law_bent⟩ := c.def_ 31 (d := D__law_bent) rfl
  have hm__law_bent : mg "_law_bent" = some (.ref (He.ga K "_law_bent")) := He.glo_ok X G (c.fact 31 (f := .glo "_law_bent") rfl)
  obtain ⟨fd__law_right, F__law_right⟩ := c.def_ 32 (d := D__law_right) rfl
  have hm__law_right : mg "_law_right" = some (.ref (He.ga K "_law_right")) := He.glo_ok X G (c.fact 32 (f := .glo "_law_right") rfl)
  obtain ⟨fd__law_word, F__law_word⟩ := c.def_ 33 (d := D__law_word) rfl
  have hm__law_word : mg "_law_word" = some (.ref (He.ga K "_law_word")) := He.glo_ok X G (c.fact 33 (f := .glo "_law_word") rfl)
  obtain ⟨fd_law, F_law⟩ := c.def_ 34 (d := D_law) rfl
  have hm_law : mg "law" = some (.ref (He.ga K "law")) := He.glo_ok X G (c.fact 34 (f := .glo "law") rfl)
  have e0 := hfa.symm.trans hm_law
  cases e0
  have b := FunD.bindsA (ps := ["_law_script"]) F_law fun _ _ _ _ _ _ us hl => match us, hl with | [_], _ => rfl
  have FL : Fun K "law" "law" (top 49) (He.ga K "law") fd_law := He5.fun_of F_law
  refine ⟨fd_law, fun s v => b s [v] rfl, fun base KX GX TBs => ?_⟩
  have h_is_from := c_is_from (P := P) (w := w) (base := base) T  (He5.fun_of F_is_from) hm_is_from
  have h_need_climate := c_need_climate (P := P) (w := w) (base := base) T  (He5.fun_of F_need_climate) hm_need_climate
  have h_look_of := c_look_of (P := P) (w := w) (base := base) T  (He5.fun_of F_look_of) hm_look_of
  have h_rains := c_rains (P := P) (w := w) (base := base) T  (He5.fun_of F_rains) hm_rains
  have h_remembered := c_remembered (P := P) (w := w) (base := base) T  (He5.fun_of F_remembered) hm_remembered
  have h_first_stand := c_first_stand (P := P) (w := w) (base := base) T  (He5.fun_of F_first_stand) hm_first_stand
  have h__law_source := c__law_source (P := P) (w := w) (base := base) T  (He5.fun_of F__law_source) hm__law_source
  have h__law_draw := c__law_draw (P := P) (w := w) (base := base) T  (He5.fun_of F__law_draw) hm__law_draw
  have h__law_deed := c__law_deed (P := P) (w := w) (base := base) T  (He5.fun_of F__law_deed) hm__law_deed
  have h_is_entry := c_is_entry (P := P) (w := w) (base := base) T h_is_from (He5.fun_of F_is_entry) hm_is_entry
  have h_need_number := c_need_number (P := P) (w := w) (base := base) T h_is_from (He5.fun_of F_need_number) hm_need_number
  have h_walk_of := c_walk_of (P := P) (w := w) (base := base) T h_look_of (He5.fun_of F_walk_of) hm_walk_of
  have h_is_stand := c_is_stand (P := P) (w := w) (base := base) T h_is_from (He5.fun_of F_is_stand) hm_is_stand
  have h__law_choice := c__law_choice (P := P) (w := w) (base := base) T h__law_draw (He5.fun_of F__law_choice) hm__law_choice
  have h__law_next := c__law_next (P := P) (w := w) (base := base) T h__law_deed (He5.fun_of F__law_next) hm__law_next
  have h__law_bent := c__law_bent (P := P) (w := w) (base := base) T h__law_draw (He5.fun_of F__law_bent) hm__law_bent
  have h_is_mood := c_is_mood (P := P) (w := w) (base := base) T h_is_entry (He5.fun_of F_is_mood) hm_is_mood
  have h_step_of := c_step_of (P := P) (w := w) (base := base) T h_remembered h_walk_of (He5.fun_of F_step_of) hm_step_of
  have h_need_paper := c_need_paper (P := P) (w := w) (base := base) T h_is_stand (He5.fun_of F_need_paper) hm_need_paper
  have h__law_book := c__law_book (P := P) (w := w) (base := base) T h__law_choice h__law_draw (He5.fun_of F__law_book) hm__law_book
  have h__law_reached := c__law_reached (P := P) (w := w) (base := base) T h__law_next (He5.fun_of F__law_reached) hm__law_reached
  have h__law_shows := c__law_shows (P := P) (w := w) (base := base) T h__law_next (He5.fun_of F__law_shows) hm__law_shows
  have h_has_book := c_has_book (P := P) (w := w) (base := base) T h_is_mood (He5.fun_of F_has_book) hm_has_book
  have h_steps_of := c_steps_of (P := P) (w := w) (base := base) T h_rains h_step_of (He5.fun_of F_steps_of) hm_steps_of
  have h__law_wet := c__law_wet (P := P) (w := w) (base := base) T h__law_next h__law_reached (He5.fun_of F__law_wet) hm__law_wet
  have h_need_book := c_need_book (P := P) (w := w) (base := base) T h_has_book (He5.fun_of F_need_book) hm_need_book
  have h_reached := c_reached (P := P) (w := w) (base := base) T h_steps_of (He5.fun_of F_reached) hm_reached
  have h_is_dry := c_is_dry (P := P) (w := w) (base := base) T h_steps_of (He5.fun_of F_is_dry) hm_is_dry
  have h_need_both := c_need_both (P := P) (w := w) (base := base) T h_need_book h_need_climate (He5.fun_of F_need_both) hm_need_both
  have h_need_few := c_need_few (P := P) (w := w) (base := base) T h_need_both h_need_number (He5.fun_of F_need_few) hm_need_few
  have h_is_paper := c_is_paper (P := P) (w := w) (base := base) T h_first_stand h_is_dry h_need_few h_need_paper h_steps_of (He5.fun_of F_is_paper) hm_is_paper
  have h_paper_for := c_paper_for (P := P) (w := w) (base := base) T h_first_stand h_is_dry h_need_few h_reached (He5.fun_of F_paper_for) hm_paper_for
  have h__law_right := c__law_right (P := P) (w := w) (base := base) T h__law_bent h__law_reached h__law_shows h__law_wet h_is_paper h_paper_for (He5.fun_of F__law_right) hm__law_right
  have TB : LamX.TabB base mg (He.codeOf K ("law", none)) (He.tabOf K (He.codeOf K ("law", none))) := TBs (He.cT K ("law", none)) (List.mem_map.mpr ⟨_, List.mem_singleton_self _, rfl⟩)
  have hbW : L2.Binds K fd__law_word ["_law_call"] [] := (He5.fun_of F__law_word : Fun K "_law_word" "_law_word" (top 48) _ _).binds fun _ _ _ _ _ _ us hl => match us, hl with | [_], _ => rfl
  refine law_of (cls := clsK K) (fl := f_law ) FL sc_law (fun cdv A outer s H E hc hr => ?_) (law_true )
  obtain ⟨oc, od, osl, lk, hcd, hci⟩ := hc
  obtain ⟨c0, hc0⟩ := He.codeIn_ref hci
  have e3 : He.codeOf K ("law", none) = c0 := He.codeOf_eq (p := ("law", none)) lk (hcd.trans hc0)
  subst hc0
  rw [e3] at TB
  have e4 : ((tf_.map (He.cT K)).map fun p => (p.2, lamQ)) = [(He.tabOf K c0, lamQ)] := by rw [← e3]; rfl
  rw [e4]
  exact d_law T h__law_book h__law_choice h__law_draw h__law_right h__law_source h_is_paper h_paper_for (He5.fun_of F__law_word) hm__law_word hbW TB A outer s H E hr
end AUL
open PySem PySem.W PySem.Calls PyProof.Rows
theorem PySem.Challenge.cw_anyumbrellas_k05_whole_papers_of_dry_wal_holds : PySem.Challenge.rw_anyumbrellas_k05_whole_papers_of_dry_wal.Holds := by
  w_on; o_law
  refine HandSHeadRun.head_any (r := OpenLaw.row PySem.Challenge.rw_anyumbrellas_k05_whole_papers_of_dry_wal) (q := view (OpenLaw.row PySem.Challenge.rw_anyumbrellas_k05_whole_papers_of_dry_wal).prog [49]) (H := AUL.hk_) (ob := AUL.ob_) (M := 14000) (loose := AUL.loose_) (d := HandSHeadRun.topDef (OpenLaw.row PySem.Challenge.rw_anyumbrellas_k05_whole_papers_of_dry_wal).prog 49) (kwd := []) AUL.ob_eq
    (by kernel_rfl) (fun s => by kernel_rfl) AUL.run_ (by kernel_rfl) (by kernel_rfl) (by kernel_rfl) (by rfl) (by first | assumption | decide +kernel) (by decide +kernel) ⟨rfl, rfl, rfl, rfl, rfl, by decide +kernel⟩ ?hw ?hc
  case hw => w_witness2
  case hc =>
    refine LamX.walk_ofTsE (l := PySem.Challenge.rw_anyumbrellas_k05_whole_papers_of_dry_wal) (n := 63) (k := 12) (x := "_law_script") (CX := fun w => L2.CX (PySem.Challenge.rw_anyumbrellas_k05_whole_papers_of_dry_wal).prog w) rfl (by decide) (by kernel_rfl) ⟨rfl, by decide, by decide⟩ ?F (fun w H s e s' z => by obtain ⟨_, _, _, _, _, _, _, _, _, _, _, _, z⟩ := z; exact z.elim)
    intro w mg fa h Y G hmg0
    obtain ⟨K, KX, c⟩ := Y
    have hmg : mg ("law" : PySem.Str) = some (.ref fa) := by
      have e : (HandSHeadRun.topDef (OpenLaw.row PySem.Challenge.rw_anyumbrellas_k05_whole_papers_of_dry_wal).prog 49).name = ("law" : PySem.Str) := by kernel_rfl
      rw [← e]
      exact hmg0
    obtain ⟨fd, hb, hF⟩ := AUL.facts_ (P := (PySem.Challenge.rw_anyumbrellas_k05_whole_papers_of_dry_wal).prog) (w := w) KX G hmg c.t.d c.more
    refine ⟨K, KX, fd, AUL.tf_.map (He.cT K), AU.spL K ((AUL.tf_.map (He.cT K)).map fun p => (p.2, AU.lamQ)), fun p hp => ?_, fun p hp => ?_, fun p hp => ?_, hb, fun H a ns hl hbit hT hS => ⟨a, ns, rfl, fun p hp => ?_, hS, hl, hbit, fun _ => rfl⟩, hF⟩
    · obtain ⟨d, hd, e⟩ := List.mem_map.mp hp
      rw [← e]
      exact c.empty d hd
    · obtain ⟨d, hd, e⟩ := List.mem_map.mp hp
      rw [← e]
      exact c.out d hd
    · obtain ⟨d, hd, e⟩ := List.mem_map.mp hp
      rw [← e]
      exact PySem.W.codeHd_of_K KX (c.hd d hd)
    · obtain ⟨d, hd, e⟩ := List.mem_map.mp hp
      rw [← e]
      exact hT d hd
